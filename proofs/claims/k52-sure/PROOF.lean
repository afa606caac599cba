import PyProof.Rows.All
import Wide.All
import OpenK.AllK
import Wide.FinOn
import HandS.ForMost
import HandS.ForExc
import KE.SortData
import KE.DataMinMax
import KE.DataFind
import KE.DataCmp
import KE.DataAny
import HandS.ExcIs
import HandS.ExcField
import HandS.Deep
import HandS.TupAny
import HandS.Style
import HandS.TupLen
import HandS.IsInst
import HandS.Flow
import HandS.Conv
import HandS.Comp
import HandS.Zip
import HandS.CallSlots
import HandS.WordsExc
import HandS.Words
import HandS.OwnEq
import HandS.DictComp
import PyProof.DictFindH
import PySem.Challenge.RW_turnedapart_k52_whole_sure_ties_of_great
set_option Elab.async false
set_option linter.all false
set_option maxRecDepth 100000
set_option maxHeartbeats 4000000
/-! trees, views, ownership -/
namespace TV
open PySem L2

inductive T where
  | non | bl (b : Bool) | int (i : Int) | str (s : Str)
  | tup (ts : List T) | lst (o : Bool) (ts : List T) | dic (o : Bool) (ks vs : List T)
  | obj (o : Bool) (c : Nat) (ns : List Str) (vs : List T)
deriving Inhabited

mutual
def T.fz : T → Bool
  | .tup ts => fzs ts
  | .lst o ts => !o && fzs ts
  | .dic o _ vs => !o && fzs vs
  | .obj o _ _ vs => !o && fzs vs
  | .non => true | .bl _ => true | .int _ => true | .str _ => true
def fzs : List T → Bool
  | [] => true
  | t :: r => t.fz && fzs r
end
mutual
def T.frz : T → T
  | .lst true ts => .lst false (frzs ts)
  | .dic true ks vs => .dic false ks (frzs vs)
  | .obj true c ns vs => .obj false c ns (frzs vs)
  | .lst false ts => .lst false ts
  | .dic false ks vs => .dic false ks vs
  | .obj false c ns vs => .obj false c ns vs
  | .tup ts => .tup ts
  | .non => .non | .bl b => .bl b | .int i => .int i | .str s => .str s
def frzs : List T → List T
  | [] => []
  | t :: r => t.frz :: frzs r
end
/-- the root is owned -/
def T.fl : T → Bool
  | .lst o _ => o | .dic o _ _ => o | .obj o _ _ _ => o
  | _ => false
/-- the children are frozen -/
def T.sh : T → Bool
  | .tup ts => fzs ts | .lst _ ts => fzs ts | .dic _ _ vs => fzs vs | .obj _ _ _ vs => fzs vs
  | _ => true

theorem fzs_frz_id : ∀ ts : List T, fzs ts = true → (∀ t ∈ ts, t.fz = true → t.frz = t) → frzs ts = ts
  | [], _, _ => rfl
  | t :: r, h, k => by
    simp only [fzs, Bool.and_eq_true] at h
    simp only [frzs]
    rw [k t (by simp) h.1, fzs_frz_id r h.2 fun x hx => k x (by simp [hx])]
theorem frz_id : ∀ t : T, t.fz = true → t.frz = t := by
  intro t h
  cases t with
  | lst o ts => cases o with
    | false => rfl
    | true => simp [T.fz] at h
  | dic o ks ts => cases o with
    | false => rfl
    | true => simp [T.fz] at h
  | obj o c ns ts => cases o with
    | false => rfl
    | true => simp [T.fz] at h
  | _ => rfl
theorem frzs_id (ts : List T) (h : fzs ts = true) : frzs ts = ts := fzs_frz_id ts h fun t _ => frz_id t
theorem fz_sh {t : T} (h : t.fz = true) : t.sh = true := by
  cases t <;> simp_all [T.fz, T.sh]
theorem fz_fl {t : T} (h : t.fz = true) : t.fl = false := by
  cases t <;> simp_all [T.fz, T.fl]
theorem fzs_mem : ∀ {ts : List T} {t : T}, fzs ts = true → t ∈ ts → t.fz = true
  | _ :: _, _, h, .head _ => by simp only [fzs, Bool.and_eq_true] at h; exact h.1
  | _ :: _, _, h, .tail _ m => by simp only [fzs, Bool.and_eq_true] at h; exact fzs_mem h.2 m
theorem fzs_of : ∀ {ts : List T}, (∀ t ∈ ts, t.fz = true) → fzs ts = true
  | [], _ => rfl
  | t :: r, h => by simp only [fzs, Bool.and_eq_true]; exact ⟨h t (by simp), fzs_of fun x hx => h x (by simp [hx])⟩
theorem fzs_iff {ts : List T} : fzs ts = true ↔ ∀ t ∈ ts, t.fz = true := ⟨fun h t m => fzs_mem h m, fzs_of⟩
theorem fzs_append {a b : List T} : fzs (a ++ b) = (fzs a && fzs b) := by
  induction a with
  | nil => rfl
  | cons x r ih => simp [fzs, ih, Bool.and_assoc]

/-- keys of dicts -/
def keyT : Key → T
  | .inl i => .int i
  | .inr s => .str s

section
variable (ca : Nat → Addr)

/-- the dict at a: keys ints and texts, or tuples of these -/
def DicAt (H : Hp) (a : Addr) (ks : List T) (vs : List V) : Prop :=
  (∃ kk : List Key, ks = kk.map keyT ∧ kk.length = vs.length ∧ H a = some (.dK (kk.zip vs))) ∨
  (∃ kk : List (List Key), ks = kk.map (fun l => .tup (l.map keyT)) ∧ kk.length = vs.length ∧ H a = some (.dT (kk.zip vs)))

mutual
def View (H : Hp) : T → V → Prop
  | .non, v => v = .non
  | .bl b, v => v = .bl b
  | .int i, v => v = .int i
  | .str s, v => v = .str s
  | .tup ts, v => ∃ a vs, v = .ref a ∧ H a = some (.tup vs) ∧ Views H ts vs
  | .lst _ ts, v => ∃ a vs, v = .ref a ∧ Rd H a (.lst vs) ∧ Views H ts vs
  | .dic _ ks xs, v => ∃ a vs, v = .ref a ∧ DicAt H a ks vs ∧ Views H xs vs
  | .obj _ c ns xs, v => ∃ a dx vs, v = .ref a ∧ H a = some (.ins (ca c) dx (ns.zip vs)) ∧ ns.length = vs.length ∧ Views H xs vs
def Views (H : Hp) : List T → List V → Prop
  | [], vs => vs = []
  | t :: ts, vs => ∃ v r, vs = v :: r ∧ View H t v ∧ Views H ts r
end
mutual
def Own (F H : Hp) : T → V → List Addr → Prop
  | .lst true ts, v, as => ∃ a vs r, v = .ref a ∧ as = a :: r ∧ H a = some (.lst vs) ∧ Owns F H ts vs r
  | .dic true ks xs, v, as => ∃ a vs r, v = .ref a ∧ as = a :: r ∧ DicAt H a ks vs ∧ Owns F H xs vs r
  | .obj true c ns xs, v, as => ∃ a dx vs r, v = .ref a ∧ as = a :: dx :: r ∧ H a = some (.ins (ca c) dx (ns.zip vs)) ∧ H dx = some (.own a) ∧ ns.length = vs.length ∧ Owns F H xs vs r
  | .lst false ts, v, as => as = [] ∧ fzs ts = true ∧ View ca F (.lst false ts) v
  | .dic false ks xs, v, as => as = [] ∧ fzs xs = true ∧ View ca F (.dic false ks xs) v
  | .obj false c ns xs, v, as => as = [] ∧ fzs xs = true ∧ View ca F (.obj false c ns xs) v
  | .tup ts, v, as => as = [] ∧ fzs ts = true ∧ View ca F (.tup ts) v
  | .non, v, as => as = [] ∧ v = .non
  | .bl b, v, as => as = [] ∧ v = .bl b
  | .int i, v, as => as = [] ∧ v = .int i
  | .str s, v, as => as = [] ∧ v = .str s
def Owns (F H : Hp) : List T → List V → List Addr → Prop
  | [], vs, as => vs = [] ∧ as = []
  | t :: ts, vs, as => ∃ v r a1 a2, vs = v :: r ∧ as = a1 ++ a2 ∧ Own F H t v a1 ∧ Owns F H ts r a2
end
end

section
variable {ca : Nat → Addr} {F F' H H' : Hp}
theorem DicAt.mono {a : Addr} {ks : List T} {vs : List V} (d : DicAt F a ks vs) (h : ∀ o, F a = some o → H a = some o) : DicAt H a ks vs := by
  rcases d with ⟨kk, e, l, x⟩ | ⟨kk, e, l, x⟩
  · exact .inl ⟨kk, e, l, h _ x⟩
  · exact .inr ⟨kk, e, l, h _ x⟩
theorem Same.rd {H H' : Hp} {a : Addr} {u : HO} (e : Same H H') (h : Rd H a u) : Rd H' a u := by
  rcases h with h | ⟨o, h⟩
  · exact .inl (e _ _ h)
  · exact .inr ⟨o, e _ _ h⟩
theorem Same.tup {K : PySem.W.Frag} {H H' : Hp} {a : Addr} {xs : List V} (e : Same H H') (h : SqT K H a xs) : SqT K H' a xs := by
  rcases h with (h | ⟨o, h⟩) | h
  · exact .inl (.inl (e _ _ h))
  · exact .inl (.inr ⟨o, e _ _ h⟩)
  · exact .inr h
mutual
theorem View.mono (e : Same F H) : ∀ (t : T) (v : V), View ca F t v → View ca H t v
  | .non, _, h => by simpa only [View] using h
  | .bl _, _, h => by simpa only [View] using h
  | .int _, _, h => by simpa only [View] using h
  | .str _, _, h => by simpa only [View] using h
  | .tup ts, v, h => by
    simp only [View] at h ⊢
    obtain ⟨a, vs, e1, s, r⟩ := h
    exact ⟨a, vs, e1, e _ _ s, Views.mono e ts vs r⟩
  | .lst _ ts, v, h => by
    simp only [View] at h ⊢
    obtain ⟨a, vs, e1, s, r⟩ := h
    exact ⟨a, vs, e1, Same.rd e s, Views.mono e ts vs r⟩
  | .dic _ ks ts, v, h => by
    simp only [View] at h ⊢
    obtain ⟨a, vs, e1, s, r⟩ := h
    exact ⟨a, vs, e1, s.mono (e a), Views.mono e ts vs r⟩
  | .obj _ c ns ts, v, h => by
    simp only [View] at h ⊢
    obtain ⟨a, dx, vs, e1, s, l, r⟩ := h
    exact ⟨a, dx, vs, e1, e _ _ s, l, Views.mono e ts vs r⟩
theorem Views.mono (e : Same F H) : ∀ (ts : List T) (vs : List V), Views ca F ts vs → Views ca H ts vs
  | [], _, h => by simpa only [Views] using h
  | t :: ts, vs, h => by
    simp only [Views] at h ⊢
    obtain ⟨v, r, e1, h1, h2⟩ := h
    exact ⟨v, r, e1, View.mono e t v h1, Views.mono e ts r h2⟩
end
theorem Views.length : ∀ {ts : List T} {vs : List V}, Views ca F ts vs → ts.length = vs.length
  | [], _, h => by simp only [Views] at h; rw [h]; rfl
  | t :: ts, vs, h => by
    simp only [Views] at h
    obtain ⟨v, r, e1, h1, h2⟩ := h
    rw [e1, List.length_cons, List.length_cons, Views.length h2]
theorem Owns.length : ∀ {ts : List T} {vs : List V} {as : List Addr}, Owns ca F H ts vs as → ts.length = vs.length
  | [], _, _, h => by simp only [Owns] at h; rw [h.1]; rfl
  | t :: ts, vs, _, h => by
    simp only [Owns] at h
    obtain ⟨v, r, a1, a2, e1, _, h1, h2⟩ := h
    rw [e1, List.length_cons, List.length_cons, Owns.length h2]
theorem Own.of_fz {t : T} {v : V} {as : List Addr} (h : t.fz = true) (o : Own ca F H t v as) : as = [] ∧ View ca F t v := by
  cases t with
  | lst b ts =>
    cases b with
    | true => simp [T.fz] at h
    | false => simp only [Own] at o; exact ⟨o.1, o.2.2⟩
  | dic b ks ts =>
    cases b with
    | true => simp [T.fz] at h
    | false => simp only [Own] at o; exact ⟨o.1, o.2.2⟩
  | obj b c ns ts =>
    cases b with
    | true => simp [T.fz] at h
    | false => simp only [Own] at o; exact ⟨o.1, o.2.2⟩
  | tup ts => simp only [Own] at o; exact ⟨o.1, o.2.2⟩
  | non => simp only [Own] at o; exact ⟨o.1, by simpa only [View] using o.2⟩
  | bl _ => simp only [Own] at o; exact ⟨o.1, by simpa only [View] using o.2⟩
  | int _ => simp only [Own] at o; exact ⟨o.1, by simpa only [View] using o.2⟩
  | str _ => simp only [Own] at o; exact ⟨o.1, by simpa only [View] using o.2⟩
theorem Own.mk_fz {t : T} {v : V} (h : t.fz = true) (o : View ca F t v) : Own ca F H t v [] := by
  cases t with
  | lst b ts =>
    cases b with
    | true => simp [T.fz] at h
    | false => simp only [Own]; exact ⟨trivial, by simpa [T.fz] using h, o⟩
  | dic b ks ts =>
    cases b with
    | true => simp [T.fz] at h
    | false => simp only [Own]; exact ⟨trivial, by simpa [T.fz] using h, o⟩
  | obj b c ns ts =>
    cases b with
    | true => simp [T.fz] at h
    | false => simp only [Own]; exact ⟨trivial, by simpa [T.fz] using h, o⟩
  | tup ts => simp only [Own]; exact ⟨trivial, by simpa [T.fz] using h, o⟩
  | non => simp only [Own]; exact ⟨trivial, by simpa only [View] using o⟩
  | bl _ => simp only [Own]; exact ⟨trivial, by simpa only [View] using o⟩
  | int _ => simp only [Own]; exact ⟨trivial, by simpa only [View] using o⟩
  | str _ => simp only [Own]; exact ⟨trivial, by simpa only [View] using o⟩
theorem Own.fz_of {t : T} {v : V} {as : List Addr} (o : Own ca F H t v as) (h : t.fl = false) : t.fz = true := by
  cases t with
  | lst b ts =>
    cases b with
    | true => simp [T.fl] at h
    | false => simp only [Own] at o; simp [T.fz, o.2.1]
  | dic b ks ts =>
    cases b with
    | true => simp [T.fl] at h
    | false => simp only [Own] at o; simp [T.fz, o.2.1]
  | obj b c ns ts =>
    cases b with
    | true => simp [T.fl] at h
    | false => simp only [Own] at o; simp [T.fz, o.2.1]
  | tup ts => simp only [Own] at o; simp [T.fz, o.2.1]
  | _ => rfl
theorem Owns.of_fzs : ∀ {ts : List T} {vs : List V} {as : List Addr}, fzs ts = true → Owns ca F H ts vs as → as = [] ∧ Views ca F ts vs
  | [], vs, as, _, h => by simp only [Owns] at h; exact ⟨h.2, by simpa only [Views] using h.1⟩
  | t :: ts, vs, as, hf, h => by
    simp only [fzs, Bool.and_eq_true] at hf
    simp only [Owns] at h
    obtain ⟨v, r, a1, a2, e1, e2, h1, h2⟩ := h
    obtain ⟨n1, v1⟩ := Own.of_fz hf.1 h1
    obtain ⟨n2, v2⟩ := Owns.of_fzs hf.2 h2
    refine ⟨by rw [e2, n1, n2]; rfl, ?_⟩
    simp only [Views]
    exact ⟨v, r, e1, v1, v2⟩
theorem Owns.mk_fzs : ∀ {ts : List T} {vs : List V}, fzs ts = true → Views ca F ts vs → Owns ca F H ts vs []
  | [], vs, _, h => by simp only [Views] at h; simp only [Owns]; exact ⟨h, trivial⟩
  | t :: ts, vs, hf, h => by
    simp only [fzs, Bool.and_eq_true] at hf
    simp only [Views] at h
    obtain ⟨v, r, e1, h1, h2⟩ := h
    simp only [Owns]
    exact ⟨v, r, [], [], e1, rfl, Own.mk_fz hf.1 h1, Owns.mk_fzs hf.2 h2⟩
mutual
theorem Own.view (e : Same F H) : ∀ (t : T) (v : V) (as : List Addr), Own ca F H t v as → View ca H t v
  | .lst true ts, v, as, h => by
    simp only [Own] at h; simp only [View]
    obtain ⟨a, vs, r, e1, _, s, x⟩ := h
    exact ⟨a, vs, e1, .inl s, Owns.views e ts vs r x⟩
  | .dic true ks ts, v, as, h => by
    simp only [Own] at h; simp only [View]
    obtain ⟨a, vs, r, e1, _, s, x⟩ := h
    exact ⟨a, vs, e1, s, Owns.views e ts vs r x⟩
  | .obj true c ns ts, v, as, h => by
    simp only [Own] at h; simp only [View]
    obtain ⟨a, dx, vs, r, e1, _, s, _, l, x⟩ := h
    exact ⟨a, dx, vs, e1, s, l, Owns.views e ts vs r x⟩
  | .lst false ts, v, as, h => by simp only [Own] at h; exact View.mono e _ _ h.2.2
  | .dic false ks ts, v, as, h => by simp only [Own] at h; exact View.mono e _ _ h.2.2
  | .obj false c ns ts, v, as, h => by simp only [Own] at h; exact View.mono e _ _ h.2.2
  | .tup ts, v, as, h => by simp only [Own] at h; exact View.mono e _ _ h.2.2
  | .non, v, as, h => by simp only [Own] at h; simpa only [View] using h.2
  | .bl _, v, as, h => by simp only [Own] at h; simpa only [View] using h.2
  | .int _, v, as, h => by simp only [Own] at h; simpa only [View] using h.2
  | .str _, v, as, h => by simp only [Own] at h; simpa only [View] using h.2
theorem Owns.views (e : Same F H) : ∀ (ts : List T) (vs : List V) (as : List Addr), Owns ca F H ts vs as → Views ca H ts vs
  | [], _, _, h => by simp only [Owns] at h; simpa only [Views] using h.1
  | t :: ts, vs, as, h => by
    simp only [Owns] at h; simp only [Views]
    obtain ⟨v, r, a1, a2, e1, _, h1, h2⟩ := h
    exact ⟨v, r, e1, Own.view e t v a1 h1, Owns.views e ts r a2 h2⟩
end
mutual
theorem Own.frame (e : Same F F') : ∀ (t : T) (v : V) (as : List Addr), (∀ a ∈ as, ∀ o, H a = some o → H' a = some o) → Own ca F H t v as → Own ca F' H' t v as
  | .lst true ts, v, as, k, h => by
    simp only [Own] at h ⊢
    obtain ⟨a, vs, r, e1, rfl, s, x⟩ := h
    exact ⟨a, vs, r, e1, rfl, k _ (by simp) _ s, Owns.frame e ts vs r (fun b hb => k b (by simp [hb])) x⟩
  | .dic true ks ts, v, as, k, h => by
    simp only [Own] at h ⊢
    obtain ⟨a, vs, r, e1, rfl, s, x⟩ := h
    exact ⟨a, vs, r, e1, rfl, s.mono (k _ (by simp)), Owns.frame e ts vs r (fun b hb => k b (by simp [hb])) x⟩
  | .obj true c ns ts, v, as, k, h => by
    simp only [Own] at h ⊢
    obtain ⟨a, dx, vs, r, e1, rfl, s, s2, l, x⟩ := h
    exact ⟨a, dx, vs, r, e1, rfl, k _ (by simp) _ s, k _ (by simp) _ s2, l, Owns.frame e ts vs r (fun b hb => k b (by simp [hb])) x⟩
  | .lst false ts, v, as, k, h => by simp only [Own] at h ⊢; exact ⟨h.1, h.2.1, View.mono e _ _ h.2.2⟩
  | .dic false ks ts, v, as, k, h => by simp only [Own] at h ⊢; exact ⟨h.1, h.2.1, View.mono e _ _ h.2.2⟩
  | .obj false c ns ts, v, as, k, h => by simp only [Own] at h ⊢; exact ⟨h.1, h.2.1, View.mono e _ _ h.2.2⟩
  | .tup ts, v, as, k, h => by simp only [Own] at h ⊢; exact ⟨h.1, h.2.1, View.mono e _ _ h.2.2⟩
  | .non, v, as, k, h => by simpa only [Own] using h
  | .bl _, v, as, k, h => by simpa only [Own] using h
  | .int _, v, as, k, h => by simpa only [Own] using h
  | .str _, v, as, k, h => by simpa only [Own] using h
theorem Owns.frame (e : Same F F') : ∀ (ts : List T) (vs : List V) (as : List Addr), (∀ a ∈ as, ∀ o, H a = some o → H' a = some o) → Owns ca F H ts vs as → Owns ca F' H' ts vs as
  | [], _, _, _, h => by simpa only [Owns] using h
  | t :: ts, vs, as, k, h => by
    simp only [Owns] at h ⊢
    obtain ⟨v, r, a1, a2, e1, rfl, h1, h2⟩ := h
    exact ⟨v, r, a1, a2, e1, rfl, Own.frame e t v a1 (fun b hb => k b (by simp [hb])) h1, Owns.frame e ts r a2 (fun b hb => k b (by simp [hb])) h2⟩
end
mutual
theorem Own.there : ∀ (t : T) (v : V) (as : List Addr), Own ca F H t v as → ∀ a ∈ as, ∃ o, H a = some o
  | .lst true ts, v, as, h, b, hb => by
    simp only [Own] at h
    obtain ⟨a, vs, r, e1, rfl, s, x⟩ := h
    rcases List.mem_cons.mp hb with rfl | hb
    · exact ⟨_, s⟩
    · exact Owns.there ts vs r x b hb
  | .dic true ks ts, v, as, h, b, hb => by
    simp only [Own] at h
    obtain ⟨a, vs, r, e1, rfl, s, x⟩ := h
    rcases List.mem_cons.mp hb with rfl | hb
    · rcases s with ⟨_, _, _, s⟩ | ⟨_, _, _, s⟩ <;> exact ⟨_, s⟩
    · exact Owns.there ts vs r x b hb
  | .obj true c ns ts, v, as, h, b, hb => by
    simp only [Own] at h
    obtain ⟨a, dx, vs, r, e1, rfl, s, s2, l, x⟩ := h
    rcases List.mem_cons.mp hb with rfl | hb
    · exact ⟨_, s⟩
    · rcases List.mem_cons.mp hb with rfl | hb
      · exact ⟨_, s2⟩
      · exact Owns.there ts vs r x b hb
  | .lst false ts, v, as, h, b, hb => by simp only [Own] at h; rw [h.1] at hb; cases hb
  | .dic false ks ts, v, as, h, b, hb => by simp only [Own] at h; rw [h.1] at hb; cases hb
  | .obj false c ns ts, v, as, h, b, hb => by simp only [Own] at h; rw [h.1] at hb; cases hb
  | .tup ts, v, as, h, b, hb => by simp only [Own] at h; rw [h.1] at hb; cases hb
  | .non, v, as, h, b, hb => by simp only [Own] at h; rw [h.1] at hb; cases hb
  | .bl _, v, as, h, b, hb => by simp only [Own] at h; rw [h.1] at hb; cases hb
  | .int _, v, as, h, b, hb => by simp only [Own] at h; rw [h.1] at hb; cases hb
  | .str _, v, as, h, b, hb => by simp only [Own] at h; rw [h.1] at hb; cases hb
theorem Owns.there : ∀ (ts : List T) (vs : List V) (as : List Addr), Owns ca F H ts vs as → ∀ a ∈ as, ∃ o, H a = some o
  | [], _, _, h, b, hb => by simp only [Owns] at h; rw [h.2] at hb; cases hb
  | t :: ts, vs, as, h, b, hb => by
    simp only [Owns] at h
    obtain ⟨v, r, a1, a2, e1, rfl, h1, h2⟩ := h
    rcases List.mem_append.mp hb with hb | hb
    · exact Own.there t v a1 h1 b hb
    · exact Owns.there ts r a2 h2 b hb
end
/-- F with what H holds at S -/
def ext (F H : Hp) (S : List Addr) : Hp := fun b => if b ∈ S then H b else F b
theorem ext_same {S : List Addr} (e : Same F H) : Same F (ext F H S) := fun b o h => by
  unfold ext; split
  · exact e b o h
  · exact h
theorem ext_le {S : List Addr} (e : Same F H) : Same (ext F H S) H := fun b o h => by
  unfold ext at h; split at h
  · exact h
  · exact e b o h
theorem ext_in {S : List Addr} {b : Addr} (m : b ∈ S) : ext F H S b = H b := if_pos m
theorem ext_out {S : List Addr} {b : Addr} (m : b ∉ S) : ext F H S b = F b := if_neg m
mutual
theorem Own.freeze {S : List Addr} (e : Same F H) : ∀ (t : T) (v : V) (as : List Addr), (∀ a ∈ as, a ∈ S) → Own ca F H t v as → View ca (ext F H S) t.frz v ∧ t.frz.fz = true
  | .lst true ts, v, as, k, h => by
    simp only [Own] at h
    obtain ⟨a, vs, r, e1, rfl, s, x⟩ := h
    obtain ⟨y1, y2⟩ := Owns.freeze e ts vs r (fun b hb => k b (by simp [hb])) x
    simp only [T.frz, View, T.fz]
    exact ⟨⟨a, vs, e1, .inl (by rw [ext_in (k a (by simp))]; exact s), y1⟩, by simp [y2]⟩
  | .dic true ks ts, v, as, k, h => by
    simp only [Own] at h
    obtain ⟨a, vs, r, e1, rfl, s, x⟩ := h
    obtain ⟨y1, y2⟩ := Owns.freeze e ts vs r (fun b hb => k b (by simp [hb])) x
    simp only [T.frz, View, T.fz]
    exact ⟨⟨a, vs, e1, s.mono fun o z => by rw [ext_in (k a (by simp))]; exact z, y1⟩, by simp [y2]⟩
  | .obj true c ns ts, v, as, k, h => by
    simp only [Own] at h
    obtain ⟨a, dx, vs, r, e1, rfl, s, s2, l, x⟩ := h
    obtain ⟨y1, y2⟩ := Owns.freeze e ts vs r (fun b hb => k b (by simp [hb])) x
    simp only [T.frz, View, T.fz]
    exact ⟨⟨a, dx, vs, e1, by rw [ext_in (k a (by simp))]; exact s, l, y1⟩, by simp [y2]⟩
  | .lst false ts, v, as, k, h => by simp only [Own] at h; exact ⟨View.mono (ext_same e) _ _ h.2.2, by simp [T.frz, T.fz, h.2.1]⟩
  | .dic false ks ts, v, as, k, h => by simp only [Own] at h; exact ⟨View.mono (ext_same e) _ _ h.2.2, by simp [T.frz, T.fz, h.2.1]⟩
  | .obj false c ns ts, v, as, k, h => by simp only [Own] at h; exact ⟨View.mono (ext_same e) _ _ h.2.2, by simp [T.frz, T.fz, h.2.1]⟩
  | .tup ts, v, as, k, h => by simp only [Own] at h; exact ⟨View.mono (ext_same e) _ _ h.2.2, by simp [T.frz, T.fz, h.2.1]⟩
  | .non, v, as, k, h => by simp only [Own] at h; simp only [T.frz, View, T.fz]; exact ⟨h.2, trivial⟩
  | .bl _, v, as, k, h => by simp only [Own] at h; simp only [T.frz, View, T.fz]; exact ⟨h.2, trivial⟩
  | .int _, v, as, k, h => by simp only [Own] at h; simp only [T.frz, View, T.fz]; exact ⟨h.2, trivial⟩
  | .str _, v, as, k, h => by simp only [Own] at h; simp only [T.frz, View, T.fz]; exact ⟨h.2, trivial⟩
theorem Owns.freeze {S : List Addr} (e : Same F H) : ∀ (ts : List T) (vs : List V) (as : List Addr), (∀ a ∈ as, a ∈ S) → Owns ca F H ts vs as → Views ca (ext F H S) (frzs ts) vs ∧ fzs (frzs ts) = true
  | [], _, _, _, h => by simp only [Owns] at h; simp only [frzs, Views, fzs]; exact ⟨h.1, trivial⟩
  | t :: ts, vs, as, k, h => by
    simp only [Owns] at h
    obtain ⟨v, r, a1, a2, e1, rfl, h1, h2⟩ := h
    obtain ⟨y1, y2⟩ := Own.freeze e t v a1 (fun b hb => k b (by simp [hb])) h1
    obtain ⟨z1, z2⟩ := Owns.freeze e ts r a2 (fun b hb => k b (by simp [hb])) h2
    simp only [frzs, Views, fzs, Bool.and_eq_true]
    exact ⟨⟨v, r, e1, y1, z1⟩, y2, z2⟩
end
/-- one item of several looked at, and put back otherwise -/
theorem Owns.focus : ∀ {ts : List T} {vs : List V} {as : List Addr} {j : Nat} {t : T}, Owns ca F H ts vs as → ts[j]? = some t → ∃ v pre an post, vs[j]? = some v ∧ as = pre ++ an ++ post ∧ Own ca F H t v an ∧
    ∀ (F' H' : Hp) (t' : T) (v' : V) (an' : List Addr), Same F F' → (∀ a ∈ pre ++ post, ∀ o, H a = some o → H' a = some o) → Own ca F' H' t' v' an' → Owns ca F' H' (ts.set j t') (vs.set j v') (pre ++ an' ++ post)
  | [], _, _, _, _, _, e => by simp at e
  | t :: ts, vs, as, 0, x, h, e => by
    simp only [Owns] at h
    obtain ⟨v, r, a1, a2, rfl, rfl, h1, h2⟩ := h
    have ex : t = x := by simpa using e
    subst ex
    refine ⟨v, [], a1, a2, by simp, by simp, h1, fun F' H' t' v' an' sf k ho => ?_⟩
    simp only [List.set_cons_zero, Owns]
    exact ⟨v', r, an', a2, rfl, by simp, ho, Owns.frame sf ts r a2 (fun a ha => k a (by simp [ha])) h2⟩
  | t :: ts, vs, as, j + 1, x, h, e => by
    simp only [Owns] at h
    obtain ⟨v, r, a1, a2, rfl, rfl, h1, h2⟩ := h
    obtain ⟨w, pre, an, post, q1, q2, q3, q4⟩ := Owns.focus (j := j) (t := x) h2 (by simpa using e)
    refine ⟨w, a1 ++ pre, an, post, by simpa using q1, by rw [q2]; simp, q3, fun F' H' t' v' an' sf k ho => ?_⟩
    simp only [List.set_cons_succ, Owns]
    exact ⟨v, r.set j v', a1, pre ++ an' ++ post, rfl, by simp, Own.frame sf t v a1 (fun a ha => k a (by simp [ha])) h1, q4 F' H' t' v' an' sf (fun a ha => k a (by
      rcases List.mem_append.mp ha with z | z <;> simp [z])) ho⟩
theorem Owns.append : ∀ {ts ts' : List T} {vs vs' : List V} {as as' : List Addr}, Owns ca F H ts vs as → Owns ca F H ts' vs' as' → Owns ca F H (ts ++ ts') (vs ++ vs') (as ++ as')
  | [], _, _, _, _, _, h, h' => by simp only [Owns] at h; rw [h.1, h.2]; exact h'
  | t :: ts, ts', vs, vs', as, as', h, h' => by
    simp only [Owns] at h
    obtain ⟨v, r, a1, a2, rfl, rfl, h1, h2⟩ := h
    simp only [List.cons_append, Owns]
    exact ⟨v, r ++ vs', a1, a2 ++ as', rfl, by simp, h1, Owns.append h2 h'⟩
theorem Owns.one {t : T} {v : V} {as : List Addr} (h : Own ca F H t v as) : Owns ca F H [t] [v] as := by
  simp only [Owns]
  exact ⟨v, [], as, [], rfl, by simp, h, rfl, rfl⟩
theorem Views.append : ∀ {ts ts' : List T} {vs vs' : List V}, Views ca F ts vs → Views ca F ts' vs' → Views ca F (ts ++ ts') (vs ++ vs')
  | [], _, _, _, h, h' => by simp only [Views] at h; rw [h]; exact h'
  | t :: ts, ts', vs, vs', h, h' => by
    simp only [Views] at h
    obtain ⟨v, r, rfl, h1, h2⟩ := h
    simp only [List.cons_append, Views]
    exact ⟨v, r ++ vs', rfl, h1, Views.append h2 h'⟩
theorem Views.get : ∀ {ts : List T} {vs : List V} {j : Nat} {t : T}, Views ca F ts vs → ts[j]? = some t → ∃ v, vs[j]? = some v ∧ View ca F t v
  | [], _, _, _, _, e => by simp at e
  | t :: ts, vs, 0, x, h, e => by
    simp only [Views] at h
    obtain ⟨v, r, rfl, h1, h2⟩ := h
    have ex : t = x := by simpa using e
    subst ex
    exact ⟨v, by simp, h1⟩
  | t :: ts, vs, j + 1, x, h, e => by
    simp only [Views] at h
    obtain ⟨v, r, rfl, h1, h2⟩ := h
    obtain ⟨w, a, b⟩ := Views.get (j := j) h2 (by simpa using e)
    exact ⟨w, by simpa using a, b⟩
end
end TV
/-! the core language and what it evaluates to -/
namespace TV
open PySem L2

/-! ### trees as data -/
mutual
def T.toD : T → PyData
  | .non => .none
  | .bl b => .bool b
  | .int i => .int i
  | .str s => .str s
  | .tup ts => .tuple (toDs ts)
  | .lst _ ts => .list (toDs ts)
  | .dic _ _ _ => .dict []
  | .obj _ _ _ _ => .dict []
def toDs : List T → List PyData
  | [] => []
  | t :: r => t.toD :: toDs r
end
/-- plain data, at most 60 deep -/
def T.data (t : T) : Bool := t.toD.plain && decide (t.toD.depth ≤ 60)
def T.truthy : T → Option Bool
  | .non => some false
  | .bl b => some b
  | .int i => some (i != 0)
  | .str _ => none
  | .tup ts => some (!ts.isEmpty)
  | .lst _ ts => some (!ts.isEmpty)
  | _ => none
/-! ### the core language -/
inductive BF where
  | len | sorted | tuple | list | min | max | sum | all | any | abs | int | dict | lrg | trg
  deriving DecidableEq
inductive BM where
  | append | pop | extend | remove | index | count | get | setdefault
  deriving DecidableEq
inductive TyN where
  | int | bool | tuple | list | dict | str | non | cls (c : Nat)
  deriving DecidableEq
/-- a target of names -/
inductive FT where
  | s (i : Nat) | t (ts : List FT)
mutual
inductive CE where
  | slot (i : Nat) | cst (t : T) | omit
  | tup (es : List CE) | lst (es : List CE) | dic0 | dic1 (k v : CE)
  | ocmp (op : CmpOp) (c : Nat) (a b : CE)
  | bin (op : Operator) (a b : CE) | un (op : UnaryOp) (a : CE) | cmp (op : CmpOp) (a b : CE) | chain (o1 o2 : CmpOp) (a b c : CE)
  | and_ (a b : CE) | or_ (a b : CE) | not_ (a : CE) | tand (a b : CE) | tor (a b : CE) | tnot (a : CE) | ife (t a b : CE)
  | idx (a i : CE) | slc (a lo hi : CE) | rev (a st : CE) | att (a : CE) (f : Str)
  | call (f : Nat) (es : List CE) | mk (c : Nat) (es : List CE) | meth (m : Str) (o : CE) (es : List CE)
  | bf (b : BF) (es : List CE) | bm (m : BM) (o : CE) (es : List CE)
  | isi (e : CE) (ts : List TyN)
  | lc (elt : CE) (tg : FT) (it : IT) (ifs : List CE) (ws : List Nat)
  | dc (k v : CE) (tg : FT) (it : IT) (ifs : List CE) (ws : List Nat)
inductive IT where
  | val (e : CE) | rng (es : List CE) | enum (e : CE) | zip (a b : CE)
end
inductive CS where
  | asg (fr : Bool) (t : FT) (e : CE)
  | par (i j : Nat) (a b : CE)
  | asgIx (o i e : CE) | asgAt (o : CE) (f : Str) (e : CE)
  | aug (i : Nat) (op : Operator) (e : CE) | augIx (o i : CE) (op : Operator) (e : CE)
  | expr (e : CE)
  | ife (t : CE) (a b : List CS)
  | whl (t : CE) (b : List CS)
  | for_ (tg : FT) (it : IT) (b : List CS)
  | ret (e : CE) | ret0 | pass | brk | cnt
  | raise (c : Nat) (es : List CE)
  | tryE (b : List CS) (c : Nat) (sl : Option Nat) (s : List CS)

abbrev Env := List (Option T)
inductive R (α : Type) where
  | ok (a : α) | exc (c : Nat) (p : Option T) (η : Env) | err
/-- an operand: a value, or an owned object at a place (a slot, then children by number) -/
inductive Opd where
  | v (t : T) | pl (i : Nat) (p : List Nat)
inductive Out where
  | nx (η : Env) | rt (t : T) (η : Env) | bk (η : Env) | ct (η : Env) | ex (c : Nat) (p : Option T) (η : Env) | er
@[inline] def R.bind {α β : Type} (r : R α) (f : α → R β) : R β :=
  match r with
  | .ok a => f a
  | .exc c p η => .exc c p η
  | .err => .err
@[inline] def R.out {α : Type} (r : R α) (f : α → Out) : Out :=
  match r with
  | .ok a => f a
  | .exc c p η => .ex c p η
  | .err => .er
/-- nothing may be raised -/
def R.cut {α : Type} (r : R α) : R α :=
  match r with
  | .exc _ _ _ => .err
  | r => r
def ofO {α : Type} : Option α → R α
  | some a => .ok a
  | none => .err
/-- a def's meaning: the arguments; the answer and the written arguments behind it -/
abbrev FS := List T → R (T × Env)
structure Ctx where
  fs : Nat → FS
  io : Nat → List Bool
  init : Nat → Option Nat
  meth : Nat → Str → Option Nat
  cl : List Nat
  pin : List Nat

/-! ### places -/
def T.kids : T → List T
  | .lst _ ts => ts | .dic _ _ vs => vs | .obj _ _ _ vs => vs
  | _ => []
def T.setKids : T → List T → T
  | .lst o _, ts => .lst o ts | .dic o ks _, ts => .dic o ks ts | .obj o c ns _, ts => .obj o c ns ts
  | t, _ => t
/-- the owned node at a path -/
def T.at : T → List Nat → Option T
  | t, [] => if t.fl then some t else none
  | t, j :: p => if t.fl then (match t.kids[j]? with | some k => k.at p | none => none) else none
def T.put : T → List Nat → T → T
  | _, [], n => n
  | t, j :: p, n => match t.kids[j]? with
    | some k => t.setKids (t.kids.set j (k.put p n))
    | none => t
def get (η : Env) (i : Nat) (p : List Nat) : Option T :=
  match η[i]? with
  | some (some t) => t.at p
  | _ => none
def put (η : Env) (i : Nat) (p : List Nat) (n : T) : Env :=
  match η[i]? with
  | some (some t) => η.set i (some (t.put p n))
  | _ => η
/-- what is read there -/
def dr (η : Env) : Opd → Option T
  | .v t => if t.sh then some t else none
  | .pl i p => match get η i p with
    | some t => if t.sh then some t else none
    | none => none
/-- handed on: frozen -/
def fre (η : Env) : Opd → Option (T × Env)
  | .v t => some (t.frz, η)
  | .pl i p => match get η i p with
    | some t => some (t.frz, put η i p t.frz)
    | none => none
/-! equal trees -/
mutual
def T.beq : T → T → Bool
  | .non, .non => true
  | .bl a, .bl b => a == b
  | .int a, .int b => a == b
  | .str a, .str b => a == b
  | .tup a, .tup b => beqs a b
  | .lst o a, .lst q b => o == q && beqs a b
  | .dic o k a, .dic q l b => o == q && beqs k l && beqs a b
  | .obj o c n a, .obj q d m b => o == q && c == d && n == m && beqs a b
  | _, _ => false
def beqs : List T → List T → Bool
  | [], [] => true
  | a :: x, b :: y => a.beq b && beqs x y
  | _, _ => false
end
def beqE : Env → Env → Bool
  | [], [] => true
  | none :: x, none :: y => beqE x y
  | some a :: x, some b :: y => a.beq b && beqE x y
  | _, _ => false
mutual
theorem T.beq_refl : ∀ t : T, t.beq t = true
  | .non => rfl
  | .bl _ => by simp [T.beq]
  | .int _ => by simp [T.beq]
  | .str _ => by simp [T.beq]
  | .tup a => by simp only [T.beq]; exact beqs_refl a
  | .lst o a => by simp [T.beq, beqs_refl a]
  | .dic o k a => by simp [T.beq, beqs_refl a, beqs_refl k]
  | .obj o c n a => by simp [T.beq, beqs_refl a]
theorem beqs_refl : ∀ t : List T, beqs t t = true
  | [] => rfl
  | a :: x => by simp [beqs, T.beq_refl a, beqs_refl x]
end
theorem beqE_refl : ∀ η : Env, beqE η η = true
  | [] => rfl
  | none :: x => by simp only [beqE]; exact beqE_refl x
  | some a :: x => by simp [beqE, T.beq_refl a, beqE_refl x]
mutual
theorem T.beq_eq : ∀ t u : T, t.beq u = true → t = u
  | .non, u, h => by cases u <;> simp_all [T.beq]
  | .bl _, u, h => by cases u <;> simp_all [T.beq]
  | .int _, u, h => by cases u <;> simp_all [T.beq]
  | .str _, u, h => by cases u <;> simp_all [T.beq]
  | .tup a, u, h => by
    cases u <;> simp only [T.beq] at h <;> try contradiction
    rw [beqs_eq a _ h]
  | .lst o a, u, h => by
    cases u <;> simp only [T.beq, Bool.and_eq_true, beq_iff_eq] at h <;> try contradiction
    rw [h.1, beqs_eq a _ h.2]
  | .dic o k a, u, h => by
    cases u <;> simp only [T.beq, Bool.and_eq_true, beq_iff_eq] at h <;> try contradiction
    rw [h.1.1, beqs_eq k _ h.1.2, beqs_eq a _ h.2]
  | .obj o c n a, u, h => by
    cases u <;> simp only [T.beq, Bool.and_eq_true, beq_iff_eq] at h <;> try contradiction
    rw [h.1.1.1, h.1.1.2, h.1.2, beqs_eq a _ h.2]
theorem beqs_eq : ∀ t u : List T, beqs t u = true → t = u
  | [], u, h => by cases u <;> simp_all [beqs]
  | a :: x, u, h => by
    cases u with
    | nil => simp [beqs] at h
    | cons b y =>
      simp only [beqs, Bool.and_eq_true] at h
      rw [T.beq_eq a b h.1, beqs_eq x y h.2]
end
theorem beqE_eq : ∀ η θ : Env, beqE η θ = true → η = θ
  | [], u, h => by cases u <;> simp_all [beqE]
  | none :: x, u, h => by
    cases u with
    | nil => simp [beqE] at h
    | cons b y =>
      cases b with
      | some b => simp [beqE] at h
      | none => simp only [beqE] at h; rw [beqE_eq x y h]
  | some a :: x, u, h => by
    cases u with
    | nil => simp [beqE] at h
    | cons b y =>
      cases b with
      | none => simp [beqE] at h
      | some b => simp only [beqE, Bool.and_eq_true] at h; rw [T.beq_eq a b h.1, beqE_eq x y h.2]

/-! ### operations on trees -/
def T.isNon : T → Bool
  | .non => true
  | _ => false
def keyS : T → Option Key
  | .int i => some (.inl i)
  | .str s => some (.inr s)
  | _ => none
def keyOk : T → Bool
  | .int _ => true | .str _ => true
  | .tup ts => ts.all fun t => (keyS t).isSome
  | _ => false
def isTup : T → Bool
  | .tup _ => true
  | _ => false
/-- a key that may stand beside the others -/
def keyFit (ks : List T) (k : T) : Bool := keyOk k && ks.all fun x => isTup x == isTup k
def kpos : List T → T → Option Nat
  | [], _ => none
  | x :: r, k => if x.beq k then some 0 else (kpos r k).map (· + 1)
def eqT (a b : T) : Bool := PyData.eqv a.toD b.toD
def ltT (a b : T) : Bool := PySem.W.dataLt a.toD b.toD
def alikeT (a b : T) : Bool := PySem.W.alike a.toD b.toD
def sizeL : Nat := 16000000
def idxOf (n : Nat) (i : Int) : Option Nat := ixN n i
def binT (op : Operator) (a b : T) : Option T :=
  match op, a, b with
  | .Add, .int i, .int j => some (.int (i + j))
  | .Sub, .int i, .int j => some (.int (i - j))
  | .Mult, .int i, .int j => if j.natAbs < 2 ^ 64 ∨ i.natAbs < 2 ^ 64 then some (.int (i * j)) else none
  | .FloorDiv, .int i, .int j => if 0 < j ∧ j.natAbs < 1073741824 then some (.int (i / j)) else none
  | .Mod, .int i, .int j => if 0 < j then some (.int (i % j)) else none
  | .BitAnd, .int i, .int j => some (.int (PySem.Builtin.bitAnd i j))
  | .BitOr, .int i, .int j => some (.int (PySem.Builtin.bitOr i j))
  | .BitXor, .int i, .int j => some (.int (PySem.Builtin.bitXor i j))
  | .LShift, .int i, .int j => if 0 ≤ j ∧ j.natAbs ≤ 1000000 ∧ i.natAbs < 2 ^ 64 then some (.int (i * 2 ^ j.toNat)) else none
  | .RShift, .int i, .int j => if 0 ≤ j then some (.int (i / 2 ^ j.toNat)) else none
  | .Pow, .int i, .int j => if 0 ≤ j ∧ j.natAbs ≤ 1000000 ∧ i.natAbs < 2 ^ 64 then some (.int (i ^ j.toNat)) else none
  | .Add, .lst _ x, .lst _ y => if x.length + y.length ≤ sizeL then some (.lst true (x ++ y)) else none
  | .Add, .tup x, .tup y => if x.length + y.length ≤ sizeL then some (.tup (x ++ y)) else none
  | .Mult, .lst _ x, .int j => if 0 ≤ j ∧ j.natAbs ≤ sizeL ∧ x.length * j.toNat ≤ sizeL then some (.lst true (List.replicate j.toNat x).flatten) else none
  | _, _, _ => none
/-- i op= j of whole numbers -/
def augT (op : Operator) (i j : Int) : Option T :=
  match op with
  | .Pow => none
  | op => binT op (.int i) (.int j)
def cmpT (op : CmpOp) (a b : T) : Option T :=
  match op with
  | .Eq => if a.data && b.data then some (.bl (eqT a b)) else none
  | .NotEq => if a.data && b.data then some (.bl (!eqT a b)) else none
  | .Lt => if a.data && b.data && alikeT a b && !a.isNon then some (.bl (ltT a b)) else none
  | .Gt => if a.data && b.data && alikeT a b && !a.isNon then some (.bl (ltT b a)) else none
  | .LtE => if a.data && b.data && alikeT a b && !a.isNon then some (.bl (!ltT b a)) else none
  | .GtE => if a.data && b.data && alikeT a b && !a.isNon then some (.bl (!ltT a b)) else none
  | .Is => match b, a with
    | .non, a => some (.bl a.isNon)
    | .bl k, .bl l => some (.bl (decide (l = k)))
    | _, _ => none
  | .IsNot => match b, a with
    | .non, a => some (.bl (!a.isNon))
    | .bl k, .bl l => some (.bl (!decide (l = k)))
    | _, _ => none
  | .In => match b with
    | .lst _ ts => if a.data && b.data then some (.bl (ts.any fun y => eqT y a)) else none
    | .tup ts => if a.data && b.data then some (.bl (ts.any fun y => eqT y a)) else none
    | .dic _ ks _ => if keyFit ks a then some (.bl (kpos ks a).isSome) else none
    | _ => none
  | .NotIn => match b with
    | .lst _ ts => if a.data && b.data then some (.bl (!ts.any fun y => eqT y a)) else none
    | .tup ts => if a.data && b.data then some (.bl (!ts.any fun y => eqT y a)) else none
    | .dic _ ks _ => if keyFit ks a then some (.bl (!(kpos ks a).isSome)) else none
    | _ => none
def unT (op : UnaryOp) (a : T) : Option T :=
  match op, a with
  | .USub, .int i => some (.int (-i))
  | _, _ => none
/-! ### loops -/
def forL (f : T → Env → Out) : List T → Env → Out
  | [], η => .nx η
  | t :: ts, η => match f t η with
    | .nx η' => forL f ts η'
    | .ct η' => forL f ts η'
    | .bk η' => .nx η'
    | .rt t η => .rt t η
    | .ex c p η => .ex c p η
    | .er => .er
def whL (c : Env → R (Bool × Env)) (b : Env → Out) : Nat → Env → Out
  | 0, _ => .er
  | n + 1, η => (c η).out fun x => if x.1 then (match b x.2 with
      | .nx η' => whL c b n η'
      | .ct η' => whL c b n η'
      | .bk η' => .nx η'
      | .rt t η => .rt t η
      | .ex c p η => .ex c p η
      | .er => .er) else .nx x.2
def lcL (f : T → Env → R (Option T × Env)) : List T → Env → List T → R (List T × Env)
  | [], η, acc => .ok (acc, η)
  | t :: ts, η, acc => (f t η).bind fun x => match x.1 with
    | some y => if acc.length < sizeL then lcL f ts x.2 (acc ++ [y]) else .err
    | none => lcL f ts x.2 acc
/-- what a dict comprehension gathers; s: how a pair is stored -/
def dcL (s : T → T → T → Option T) (f : T → Env → R (Option (T × T) × Env)) : List T → Env → T → R (T × Env)
  | [], η, acc => .ok (acc, η)
  | t :: ts, η, acc => (f t η).bind fun x => match x.1 with
    | some y => (match s acc y.1 y.2 with
      | some acc' => dcL s f ts x.2 acc'
      | none => .err)
    | none => dcL s f ts x.2 acc
/-- turns a while may take -/
def fuelW : Nat := 1000000
mutual
def bindF : FT → T → Env → Option Env
  | .s i, t, η => if i < η.length then some (η.set i (some t)) else none
  | .t fts, t, η => match t with
    | .tup ts => bindFs fts ts η
    | _ => none
def bindFs : List FT → List T → Env → Option Env
  | [], [], η => some η
  | f :: fs, t :: ts, η => match bindF f t η with
    | some η' => bindFs fs ts η'
    | none => none
  | _, _, _ => none
end
mutual
def FT.slots : FT → List Nat
  | .s i => [i]
  | .t fs => slotsF fs
def slotsF : List FT → List Nat
  | [] => []
  | f :: fs => f.slots ++ slotsF fs
end
def wipeE (η : Env) : List Nat → Env
  | [] => η
  | v :: vs => (wipeE η vs).set v none
/-- the slots as they were -/
def resE (η η₁ : Env) : List Nat → Env
  | [] => η
  | v :: vs => (resE η η₁ vs).set v ((η₁[v]?).getD none)
def plainSl (η : Env) (i : Nat) : Bool := match η[i]? with
  | some (some t) => !t.fl
  | _ => true

/-- the truth of an operand -/
def truO (η : Env) : Opd → Option Bool
  | .v t => t.truthy
  | .pl i p => match get η i p with
    | some t => t.truthy
    | none => none
/-- arguments of a call: the written ones are taken out of their slots, the others frozen -/
def args : List Opd → List Bool → Env → Option (List T × Env × List Nat)
  | [], _, η => some ([], η, [])
  | o :: os, bs, η => match bs.headD false, o with
    | true, .pl i [] => (match η[i]? with
      | some (some t) => if t.fl then (match args os bs.tail (η.set i none) with
          | some (ts, η', is) => some (t :: ts, η', i :: is)
          | none => none) else none
      | _ => none)
    | true, _ => none
    | false, o => (match fre η o with
      | some (t, η₁) => (match args os bs.tail η₁ with
          | some (ts, η', is) => some (t :: ts, η', is)
          | none => none)
      | none => none)
/-- the written arguments back in their slots -/
def backA (η : Env) : List Nat → Env → Option Env
  | [], [] => some η
  | i :: is, some t :: os => backA (η.set i (some t)) is os
  | _, _ => none
def callF (f : FS) (io : List Bool) (os : List Opd) (η : Env) : R (Opd × Env) :=
  match args os io η with
  | some (ts, η₁, is) => (match f ts with
    | .ok (t, outs) => (match backA η₁ is outs with
      | some η₂ => .ok (.v t, η₂)
      | none => .err)
    | .exc c p outs => (match backA η₁ is outs with
      | some η₂ => .exc c p η₂
      | none => .err)
    | .err => .err)
  | none => .err
def mkF (f : FS) (io : List Bool) (c : Nat) (os : List Opd) (η : Env) : R (Opd × Env) :=
  match args os io.tail η with
  | some (ts, η₁, is) => (match f (.obj true c [] [] :: ts) with
    | .ok (.non, some t :: outs) => (match backA η₁ is outs with
      | some η₂ => .ok (.v t, η₂)
      | none => .err)
    | .exc c p (_ :: outs) => (match backA η₁ is outs with
      | some η₂ => .exc c p η₂
      | none => .err)
    | _ => .err)
  | none => .err
def drs (η : Env) : List Opd → Option (List T)
  | [] => some []
  | o :: os => match dr η o, drs η os with
    | some t, some ts => some (t :: ts)
    | _, _ => none
end TV
/-! evaluation -/
namespace TV
open PySem L2

def seqOf : T → Option (List T)
  | .lst _ ts => some ts
  | .tup ts => some ts
  | _ => none
def sortOk (ts : List T) : Bool :=
  (ts.all fun t => t.data && !t.isNon) && (ts.all fun a => ts.all fun b => alikeT a b) &&
    ((ts.all fun t => match t with | .tup (_ :: _) => true | _ => false) || (ts.all fun t => match t with | .tup _ => false | _ => true))
/-- sorted: the kit's stable sort by dataLt -/
def sortT (ts : List T) : List T := ts.mergeSort fun a b => !ltT b a
def minT (t : T) (ts : List T) : T := ts.foldl (fun a y => if ltT y a then y else a) t
def maxT (t : T) (ts : List T) : T := ts.foldl (fun a y => if ltT a y then y else a) t
def cmpOk (ts : List T) : Bool := (ts.all fun t => t.data && !t.isNon) && (ts.all fun a => ts.all fun b => alikeT a b)
def intOf : T → Option Int
  | .int i => some i
  | _ => none
def boolOf : T → Option Bool
  | .bl b => some b
  | _ => none
def lenT : T → Option Int
  | .lst _ ts => some ts.length
  | .tup ts => some ts.length
  | .dic _ ks _ => some ks.length
  | .str s => if s.length ≤ sizeL then some s.length else none
  | _ => none
def bfT : BF → List T → Option T
  | .len, [t] => (lenT t).map T.int
  | .sorted, [t] => (seqOf t).bind fun ts => if sortOk ts then some (.lst true (sortT ts)) else none
  | .tuple, [t] => (seqOf t).map T.tup
  | .list, [t] => (seqOf t).map (T.lst true)
  | .min, [t] => (seqOf t).bind fun ts => match ts with
    | x :: xs => if cmpOk (x :: xs) then some (minT x xs) else none
    | [] => none
  | .max, [.int i, .int j] => some (.int (if j > i then j else i))
  | .max, [t] => (seqOf t).bind fun ts => match ts with
    | x :: xs => if cmpOk (x :: xs) then some (maxT x xs) else none
    | [] => none
  | .sum, [.lst _ ts] => (ts.mapM intOf).map fun ns => T.int ns.sum
  | .all, [t] => (seqOf t).bind fun ts => (ts.mapM boolOf).map fun bs => T.bl (bs.all id)
  | .any, [t] => (seqOf t).bind fun ts => (ts.mapM boolOf).map fun bs => T.bl (bs.any id)
  | .abs, [.int i] => some (.int (if i < 0 then -i else i))
  | .int, [.int i] => some (.int i)
  | .int, [.bl b] => some (.int (if b then 1 else 0))
  | .lrg, [.int n] => if 0 ≤ n ∧ n.natAbs ≤ 16777216 then some (.lst true ((List.range n.toNat).map fun (i : Nat) => T.int i)) else none
  | .trg, [.int n] => if 0 ≤ n ∧ n.natAbs ≤ 16777216 then some (.tup ((List.range n.toNat).map fun (i : Nat) => T.int i)) else none
  | _, _ => none
def childOf (t : T) (k : T) : Option Nat :=
  match t, k with
  | .lst _ ts, .int i => idxOf ts.length i
  | .tup ts, .int i => idxOf ts.length i
  | .dic _ ks _, k => if keyFit ks k then kpos ks k else none
  | _, _ => none
def kidsT : T → List T
  | .tup ts => ts
  | t => t.kids
def fpos : List Str → Str → Option Nat
  | [], _ => none
  | x :: r, k => if x = k then some 0 else (fpos r k).map (· + 1)
def idxE (η : Env) (oa : Opd) (k : T) : Option Opd :=
  match oa with
  | .v t => if t.sh then (match childOf t k with
    | some j => (kidsT t)[j]?.map .v
    | none => none) else none
  | .pl i p => match get η i p with
    | some t => (match childOf t k with
      | some j => (match (kidsT t)[j]? with
        | some c => if c.fl then some (.pl i (p ++ [j])) else some (.v c)
        | none => none)
      | none => none)
    | none => none
def attE (cl : List Nat) (η : Env) (oa : Opd) (f : Str) : Option Opd :=
  match oa with
  | .v (.obj o c ns vs) => if cl.contains c && fzs vs then (match fpos ns f with
    | some j => vs[j]?.map .v
    | none => none) else none
  | .pl i p => (match get η i p with
    | some (.obj _ c ns vs) => if cl.contains c then (match fpos ns f with
      | some j => (match vs[j]? with
        | some k => if k.fl then some (.pl i (p ++ [j])) else some (.v k)
        | none => none)
      | none => none) else none
    | _ => none)
  | _ => none
/-- a bound of a slice -/
def sIx (n : Nat) (d : Nat) : Option Int → Nat
  | none => d
  | some i => if 0 ≤ i then min i.toNat n else (i + n).toNat
def cut {α : Type} (xs : List α) (lo hi : Option Int) : List α := (xs.drop (sIx xs.length 0 lo)).take (sIx xs.length xs.length hi - sIx xs.length 0 lo)
def optI : T → Option (Option Int)
  | .non => some none
  | .int i => if i.natAbs < 2 ^ 62 then some (some i) else none
  | _ => none
def slcT (t lo hi : T) : Option T :=
  match optI lo, optI hi with
  | some l, some h => (match t with
    | .lst _ ts => some (.lst true (cut ts l h))
    | .tup ts => some (.tup (cut ts l h))
    | _ => none)
  | _, _ => none
def revT (t st : T) : Option T :=
  match st with
  | .int i => if i = -1 then (match t with
      | .lst _ ts => some (.lst true ts.reverse)
      | .tup ts => some (.tup ts.reverse)
      | _ => none) else none
  | _ => none
/-- the class of a tree -/
def tyOf : T → TyN
  | .non => .non | .bl _ => .bool | .int _ => .int | .str _ => .str | .tup _ => .tuple | .lst _ _ => .list | .dic _ _ _ => .dict | .obj _ c _ _ => .cls c
def kitN (a b : TyN) : Bool := a == b || (a == .bool && b == .int)
def tyIn (cl : List Nat) : TyN → Bool
  | .cls c => cl.contains c
  | _ => true
def isiT (cl : List Nat) (t : T) (ts : List TyN) : Option T := if tyIn cl (tyOf t) && ts.all (tyIn cl) then some (.bl (ts.any (kitN (tyOf t)))) else none
def rngT : List T → Option (List T)
  | [.int n] => if n.natAbs < 2 ^ 62 then some ((List.range n.toNat).map fun (i : Nat) => T.int i) else none
  | [.int a, .int b] => if a.natAbs < 2 ^ 62 ∧ b.natAbs < 2 ^ 62 then some ((List.range (b - a).toNat).map fun (i : Nat) => T.int (a + i)) else none
  | _ => none
def plainD : T → Bool
  | .lst _ _ => false | .dic _ _ _ => false | .obj _ _ _ _ => false
  | .tup ts => fzs ts
  | _ => true
/-- methods that read -/
def bmR : BM → List T → Option T
  | .index, [.lst o ts, x] => if (T.lst o ts).data && x.data then (ts.findIdx? fun y => eqT y x).map fun (j : Nat) => T.int (j : Int) else none
  | .count, [.lst o ts, x] => if (T.lst o ts).data && x.data then some (.int (ts.countP fun y => eqT y x)) else none
  | .get, [.dic _ ks vs, k] => if keyFit ks k then some (match kpos ks k with | some j => vs[j]?.getD .non | none => .non) else none
  | .get, [.dic _ ks vs, k, d] => if keyFit ks k && plainD d then some (match kpos ks k with | some j => vs[j]?.getD .non | none => d) else none
  | _, _ => none
def bmW : BM → Bool
  | .append | .pop | .extend | .remove | .setdefault => true
  | _ => false
/-- methods that write: the owned node, the other arguments: the answer, the node behind -/
def bmT : BM → T → List T → Option (T × T)
  | .append, .lst true ts, [x] => if ts.length < sizeL then some (.non, .lst true (ts ++ [x])) else none
  | .pop, .lst true ts, [] => match idxOf ts.length (-1) with
    | some j => (ts[j]?).map fun x => (x, .lst true (ts.eraseIdx j))
    | none => none
  | .pop, .lst true ts, [.int i] => match idxOf ts.length i with
    | some j => (ts[j]?).map fun x => (x, .lst true (ts.eraseIdx j))
    | none => none
  | .extend, .lst true ts, [.lst _ us] => if ts.length + us.length ≤ sizeL && fzs us then some (.non, .lst true (ts ++ us)) else none
  | .remove, .lst true ts, [x] => if (T.lst true ts).data && x.data then (ts.findIdx? fun y => eqT y x).map fun j => (.non, .lst true (ts.eraseIdx j)) else none
  | _, _, _ => none
/-- o[k] = x upon an owned node -/
def setT : T → T → T → Option T
  | .lst true ts, .int i, x => (idxOf ts.length i).map fun j => .lst true (ts.set j x)
  | .dic true ks vs, k, x => if keyFit ks k && decide (ks.length < sizeL) then (match kpos ks k with
    | some j => some (.dic true ks (vs.set j x))
    | none => some (.dic true (ks ++ [k]) (vs ++ [x]))) else none
  | _, _, _ => none
def attT : T → Str → T → Option T
  | .obj true c ns vs, f, x => if ns.length < 900 then (match fpos ns f with
    | some j => some (.obj true c ns (vs.set j x))
    | none => some (.obj true c (ns ++ [f]) (vs ++ [x]))) else none
  | _, _, _ => none
/-- the value of the last operand, to be stored: kept if it is new, else frozen -/
def keepO (η : Env) : Opd → Option (T × Env)
  | .v t => some (t, η)
  | o => fre η o

abbrev Clo0 := Env → R (Opd × Env)
/-- an expression that changes nothing and calls nothing -/
def pu : CE → Bool
  | .slot _ | .cst _ | .omit => true
  | _ => false
/-- an operand that stays where it is while others are evaluated -/
def stay (o : Opd) (b : Bool) (η η' : Env) : Bool := match o with
  | .pl _ (_ :: _) => b && beqE η η'
  | _ => true
/-- operands from the left (the flag: pu) -/
def evL : List (Bool × (Env → R (Opd × Env))) → Env → R (List Opd × Env)
  | [], η => .ok ([], η)
  | e :: es, η => (e.2 η).bind fun x => (evL es x.2).bind fun y => if stay x.1 (es.all (·.1)) x.2 y.2 then .ok (x.1 :: y.1, y.2) else .err
def kindO (η : Env) : Opd → Option T
  | .v t => some t
  | .pl i p => get η i p
/-- a receiver, looked at, then the other operands -/
def evLc (chk : Opd → Env → Bool) (f : Clo0) (b : Bool) (g : Env → R (List Opd × Env)) : Env → R (List Opd × Env) := fun η =>
  (f η).bind fun x => if chk x.1 x.2 then (g x.2).bind fun y => if stay x.1 b x.2 y.2 then .ok (x.1 :: y.1, y.2) else .err else .err
/-- which containers have the method -/
def chkB (m : BM) (x : Opd) (η : Env) : Bool :=
  match kindO η x with
  | some (.lst _ _) => (match m with | .append | .pop | .extend | .remove | .index | .count => true | _ => false)
  | some (.dic _ _ _) => (match m with | .get => true | _ => false)
  | _ => false
def chkM (C : Ctx) (m : Str) (x : Opd) (η : Env) : Bool :=
  match kindO η x with
  | some (.obj _ c ns _) => C.cl.contains c && (C.meth c m).isSome && !ns.contains m
  | _ => false
def bmGo (m : BM) (os : List Opd) (η : Env) : R (Opd × Env) :=
  match bmW m, os with
  | false, os => (match drs η os with
    | some ts => (ofO (bmR m ts)).bind fun r => .ok (.v r, η)
    | none => .err)
  | true, [.pl i p] => (match get η i p with
    | some n => (match bmT m n [] with
      | some (r, n') => .ok (.v r, put η i p n')
      | none => .err)
    | none => .err)
  | true, [.pl i p, o] => (match keepO η o with
    | some (t, η₁) => (match get η₁ i p with
      | some n => (match bmT m n [t] with
        | some (r, n') => .ok (.v r, put η₁ i p n')
        | none => .err)
      | none => .err)
    | none => .err)
  | true, _ => .err
def methGo (C : Ctx) (m : Str) (os : List Opd) (η : Env) : R (Opd × Env) :=
  match os with
  | o :: _ => (match kindO η o with
    | some (.obj _ c _ _) => (match C.meth c m with
      | some f => callF (C.fs f) (C.io f) os η
      | none => .err)
    | _ => .err)
  | [] => .err
mutual
def evE (C : Ctx) : CE → Env → R (Opd × Env)
  | .slot i, η => (match η[i]? with
    | some (some t) => if t.fl then .ok (.pl i [], η) else .ok (.v t, η)
    | _ => .err)
  | .cst t, η => .ok (.v t, η)
  | .omit, η => .ok (.v .non, η)
  | .tup es, η => (evs C es η).bind fun x => match args x.1 [] x.2 with
    | some (ts, η', _) => .ok (.v (.tup ts), η')
    | none => .err
  | .lst es, η => (evs C es η).bind fun x => match args x.1 [] x.2 with
    | some (ts, η', _) => .ok (.v (.lst true ts), η')
    | none => .err
  | .dic0, η => .ok (.v (.dic true [] []), η)
  | .bin op a b, η => (evL [(pu a, fun η => evE C a η), (pu b, fun η => evE C b η)] η).bind fun x => match drs x.2 x.1 with
    | some [s, t] => (ofO (binT op s t)).bind fun r => .ok (.v r, x.2)
    | _ => .err
  | .un op a, η => (evE C a η).bind fun x => match dr x.2 x.1 with
    | some t => (ofO (unT op t)).bind fun r => .ok (.v r, x.2)
    | none => .err
  | .cmp op a b, η => (evL [(pu a, fun η => evE C a η), (pu b, fun η => evE C b η)] η).bind fun x => match drs x.2 x.1 with
    | some [s, t] => (ofO (cmpT op s t)).bind fun r => .ok (.v r, x.2)
    | _ => .err
  | .ocmp op c a b, η => (evL [(pu a, fun η => evE C a η), (pu b, fun η => evE C b η)] η).bind fun x => (match C.meth c "__eq__" with
    | some f => (match x.1 with
      | [oa, ob] => (match kindO x.2 oa, kindO x.2 ob with
        | some (.obj _ c1 _ _), some (.obj _ c2 _ _) => if c1 = c ∧ c2 = c then (callF (C.fs f) (C.io f) x.1 x.2).cut.bind fun y => (match y.1, op with
            | .v (.bl k), .Eq => .ok (.v (.bl k), y.2)
            | .v (.bl k), .NotEq => .ok (.v (.bl (!k)), y.2)
            | _, _ => .err) else .err
        | _, _ => .err)
      | _ => .err)
    | none => .err)
  | .chain o1 o2 a b c, η => (evL [(pu a, fun η => evE C a η), (pu b, fun η => evE C b η)] η).bind fun x => match drs x.2 x.1 with
    | some [s, t] => (match cmpT o1 s t with
      | some (.bl true) => (evE C c x.2).bind fun y => match dr y.2 y.1 with
        | some u => (match t with
          | .int _ => (ofO (cmpT o2 t u)).bind fun r => .ok (.v r, y.2)
          | _ => .err)
        | none => .err
      | some (.bl false) => .ok (.v (.bl false), x.2)
      | _ => .err)
    | _ => .err
  | .and_ a b, η => (evE C a η).bind fun x => match x.1 with
    | .v (.bl true) => evE C b x.2
    | .v (.bl false) => .ok (.v (.bl false), x.2)
    | _ => .err
  | .or_ a b, η => (evE C a η).bind fun x => match x.1 with
    | .v (.bl true) => .ok (.v (.bl true), x.2)
    | .v (.bl false) => evE C b x.2
    | _ => .err
  | .not_ a, η => (evE C a η).bind fun x => match x.1 with
    | .v (.bl k) => .ok (.v (.bl (!k)), x.2)
    | _ => .err
  | .tand a b, η => (evE C a η).bind fun x => match truO x.2 x.1 with
    | some true => evE C b x.2
    | some false => .ok (.v (.bl false), x.2)
    | none => .err
  | .tor a b, η => (evE C a η).bind fun x => match truO x.2 x.1 with
    | some true => .ok (.v (.bl true), x.2)
    | some false => evE C b x.2
    | none => .err
  | .tnot a, η => (evE C a η).bind fun x => match truO x.2 x.1 with
    | some k => .ok (.v (.bl (!k)), x.2)
    | none => .err
  | .ife t a b, η => (evE C t η).bind fun x => match truO x.2 x.1 with
    | some true => evE C a x.2
    | some false => evE C b x.2
    | none => .err
  | .idx a i, η => (evL [(pu a, fun η => evE C a η), (pu i, fun η => evE C i η)] η).bind fun x => match x.1 with
    | [oa, oi] => (match dr x.2 oi with
      | some k => (ofO (idxE x.2 oa k)).bind fun o => .ok (o, x.2)
      | none => .err)
    | _ => .err
  | .slc a lo hi, η => (evL [(pu a, fun η => evE C a η), (pu lo, fun η => evE C lo η), (pu hi, fun η => evE C hi η)] η).bind fun x => match drs x.2 x.1 with
    | some [t, l, h] => (ofO (slcT t l h)).bind fun r => .ok (.v r, x.2)
    | _ => .err
  | .rev a st, η => (evL [(pu a, fun η => evE C a η), (pu st, fun η => evE C st η)] η).bind fun x => match drs x.2 x.1 with
    | some [s, t] => (ofO (revT s t)).bind fun r => .ok (.v r, x.2)
    | _ => .err
  | .att a f, η => (evE C a η).bind fun x => (ofO (attE C.cl x.2 x.1 f)).bind fun o => .ok (o, x.2)
  | .call f es, η => (evs C es η).bind fun x => callF (C.fs f) (C.io f) x.1 x.2
  | .mk c es, η => (evs C es η).bind fun x => match C.init c with
    | some f => (mkF (C.fs f) (C.io f) c x.1 x.2).cut
    | none => .err
  | .meth m o es, η => (evLc (chkM C m) (fun η => evE C o η) (es.all pu) (fun η => evs C es η) η).bind fun x => methGo C m x.1 x.2
  | .bf b es, η => (evs C es η).bind fun x => match drs x.2 x.1 with
    | some ts => (ofO (bfT b ts)).bind fun r => .ok (.v r, x.2)
    | none => .err
  | .bm m o es, η => (evLc (chkB m) (fun η => evE C o η) (es.all pu) (fun η => evs C es η) η).bind fun x => bmGo m x.1 x.2
  | .isi e ts, η => (evE C e η).bind fun x => match dr x.2 x.1 with
    | some t => (ofO (isiT C.cl t ts)).bind fun r => .ok (.v r, x.2)
    | none => .err
  | .lc elt tg it ifs ws, η => (evIt C it η).bind fun x =>
    if ws.all (fun i => plainSl x.2 i && !C.pin.contains i) then
      (lcL (fun t η => (match bindF tg t η with
        | some η₁ => (evTs C ifs η₁).bind fun y => if y.1 then (evE C elt y.2).bind fun z => (match keepO z.2 z.1 with
            | some (u, η₂) => .ok (some u, wipeE η₂ ws)
            | none => .err) else .ok (none, wipeE y.2 ws)
        | none => .err).cut) x.1 (wipeE x.2 ws) []).bind fun y => .ok (.v (.lst true y.1), resE y.2 x.2 ws)
    else .err
  | .dc ek ev tg it ifs ws, η => (evIt C it η).bind fun x =>
    if ws.all (fun i => plainSl x.2 i && !C.pin.contains i) then
      (dcL setT (fun t η => (match bindF tg t η with
        | some η₁ => (evTs C ifs η₁).bind fun y => if y.1 then (evL [(pu ek, fun η => evE C ek η), (pu ev, fun η => evE C ev η)] y.2).bind fun z => (match z.1 with
            | [ok, ov] => (match dr z.2 ok, keepO z.2 ov with
              | some key, some (u, η₂) => .ok (some (key, u), wipeE η₂ ws)
              | _, _ => .err)
            | _ => .err) else .ok (none, wipeE y.2 ws)
        | none => .err).cut) x.1 (wipeE x.2 ws) (.dic true [] [])).bind fun y => .ok (.v y.1, resE y.2 x.2 ws)
    else .err
  | .dic1 ek ev, η => (evL [(pu ek, fun η => evE C ek η), (pu ev, fun η => evE C ev η)] η).cut.bind fun z => (match z.1 with
      | [ok, ov] => (match dr z.2 ok, keepO z.2 ov with
        | some key, some (u, η₂) => if keyOk key && !isTup key then .ok (.v (.dic true [key] [u]), η₂) else .err
        | _, _ => .err)
      | _ => .err)
def evs (C : Ctx) : List CE → Env → R (List Opd × Env)
  | [], η => .ok ([], η)
  | e :: es, η => (evE C e η).bind fun x => (evs C es x.2).bind fun y => if stay x.1 (es.all pu) x.2 y.2 then .ok (x.1 :: y.1, y.2) else .err
/-- tests of a comprehension: all of them -/
def evTs (C : Ctx) : List CE → Env → R (Bool × Env)
  | [], η => .ok (true, η)
  | e :: es, η => (evE C e η).bind fun x => match truO x.2 x.1 with
    | some true => evTs C es x.2
    | some false => .ok (false, x.2)
    | none => .err
/-- the items that are walked -/
def evIt (C : Ctx) : IT → Env → R (List T × Env)
  | .val e, η => (evE C e η).bind fun x => match fre x.2 x.1 with
    | some (t, η') => (match seqOf t with
      | some ts => .ok (ts, η')
      | none => .err)
    | none => .err
  | .rng es, η => (evs C es η).bind fun x => match drs x.2 x.1 with
    | some ts => (ofO (rngT ts)).bind fun r => .ok (r, x.2)
    | none => .err
  | .enum e, η => (evL [(pu e, fun η => evE C e η)] η).bind fun x => match args x.1 [] x.2 with
    | some ([.lst _ ts], η', _) => .ok ((ts.zipIdx).map fun y => .tup [.int y.2, y.1], η')
    | _ => .err
  | .zip a b, η => (evL [(pu a, fun η => evE C a η), (pu b, fun η => evE C b η)] η).bind fun x => match args x.1 [] x.2 with
    | some ([.lst _ ts, .lst _ us], η', _) => .ok ((ts.zip us).map fun y => .tup [y.1, y.2], η')
    | some ([.tup ts, .tup us], η', _) => .ok ((ts.zip us).map fun y => .tup [y.1, y.2], η')
    | _ => .err
end
mutual
def evS (C : Ctx) : CS → Env → Out
  | .asg fr ft e, η => (evE C e η).out fun x => match ft with
    | .s i => if C.pin.contains i then .er else (match (if fr then fre x.2 x.1 else keepO x.2 x.1) with
      | some (t, η') => if i < η'.length then .nx (η'.set i (some t)) else .er
      | none => .er)
    | .t fts => if (slotsF fts).any C.pin.contains then .er else (match fre x.2 x.1 with
      | some (t, η') => (match bindF (.t fts) t η' with
        | some η₂ => .nx η₂
        | none => .er)
      | none => .er)
  | .par i j a b, η => (evL [(pu a, fun η => evE C a η), (pu b, fun η => evE C b η)] η).out fun x => (match x.1 with
    | [oa, ob] => if C.pin.contains i || C.pin.contains j then .er else (match keepO x.2 oa with
      | some (s, η₁) => (match keepO η₁ ob with
        | some (t, η₂) => if i < η₂.length ∧ j < η₂.length then .nx ((η₂.set i (some s)).set j (some t)) else .er
        | none => .er)
      | none => .er)
    | _ => .er)
  | .asgIx o i e, η => (evE C e η).out fun x => match keepO x.2 x.1 with
    | some (t, η₁) => (evL [(pu o, fun η => evE C o η), (pu i, fun η => evE C i η)] η₁).out fun y => (match y.1 with
      | [.pl k p, oi] => (match dr y.2 oi, get y.2 k p with
        | some key, some n => (match setT n key t with
          | some n' => .nx (put y.2 k p n')
          | none => .er)
        | _, _ => .er)
      | _ => .er)
    | none => .er
  | .asgAt o f e, η => (evE C e η).out fun x => match keepO x.2 x.1 with
    | some (t, η₁) => (evE C o η₁).out fun y => (match y.1 with
      | .pl k p => (match get y.2 k p with
        | some (.obj true c ns vs) => if C.cl.contains c then (match attT (.obj true c ns vs) f t with
          | some n' => .nx (put y.2 k p n')
          | none => .er) else .er
        | _ => .er)
      | _ => .er)
    | none => .er
  | .aug i op e, η => (match η[i]? with
    | some (some (.int a)) => if C.pin.contains i then .er else (evE C e η).out fun x => match dr x.2 x.1 with
      | some (.int b) => (match augT op a b with
        | some t => .nx (x.2.set i (some t))
        | none => .er)
      | _ => .er
    | _ => .er)
  | .augIx o i op e, η => (evL [(pu o, fun η => evE C o η), (pu i, fun η => evE C i η)] η).out fun x => (match x.1 with
    | [.pl k p, .v key] => (match get x.2 k p with
      | some n => (match childOf n key with
        | some m => (match n.kids[m]? with
          | some (.int a) => if key.sh then (evE C e x.2).out fun y => if stay (.pl k p) (pu e) x.2 y.2 then (match dr y.2 y.1, get y.2 k p with
            | some (.int b), some n2 => (match augT op a b with
              | some t => (match setT n2 key t with
                | some n' => .nx (put y.2 k p n')
                | none => .er)
              | none => .er)
            | _, _ => .er) else .er else .er
          | _ => .er)
        | none => .er)
      | none => .er)
    | _ => .er)
  | .expr e, η => (evE C e η).out fun x => .nx x.2
  | .ife t a b, η => (evE C t η).out fun x => match truO x.2 x.1 with
    | some true => evB C a x.2
    | some false => evB C b x.2
    | none => .er
  | .whl t b, η => whL (fun η => (evE C t η).bind fun x => match truO x.2 x.1 with
    | some k => .ok (k, x.2)
    | none => .err) (fun η => evB C b η) fuelW η
  | .for_ tg it b, η => (evIt C it η).out fun x => forL (fun t η => if tg.slots.any C.pin.contains then .er else match bindF tg t η with
    | some η₁ => evB C b η₁
    | none => .er) x.1 x.2
  | .ret e, η => (evE C e η).out fun x => match keepO x.2 x.1 with
    | some (t, η') => .rt t η'
    | none => .er
  | .ret0, η => .rt .non η
  | .pass, η => .nx η
  | .brk, η => .bk η
  | .cnt, η => .ct η
  | .raise c es, η => (evs C es η).out fun x => match args x.1 [] x.2 with
    | some ([], η', _) => .ex c none η'
    | some ([t], η', _) => .ex c (some t) η'
    | _ => .er
  | .tryE _ _ _ _, _ => .er
def evB (C : Ctx) : List CS → Env → Out
  | [], η => .nx η
  | s :: ss, η => match evS C s η with
    | .nx η' => evB C ss η'
    | .rt t η' => .rt t η'
    | .bk η' => .bk η'
    | .ct η' => .ct η'
    | .ex c p η' => .ex c p η'
    | .er => .er
end
/-- the written arguments' trees at the end -/
def outsOf : List Bool → Env → Option Env
  | [], _ => some []
  | true :: bs, some x :: η => match outsOf bs η with
    | some r => some (some x :: r)
    | none => none
  | true :: _, _ => none
  | false :: bs, _ :: η => outsOf bs η
  | false :: _, [] => none
/-- a def of n slots by its body -/
def evF (C : Ctx) (io : List Bool) (n : Nat) (b : List CS) : FS := fun ts =>
  match evB C b (ts.map some ++ List.replicate (n - ts.length) none) with
  | .nx η => (match outsOf io η with
    | some o => .ok (.non, o)
    | none => .err)
  | .rt t η => (match outsOf io η with
    | some o => .ok (t, o)
    | none => .err)
  | .ex c p η => (match outsOf io η with
    | some o => .exc c p o
    | none => .err)
  | _ => .err
end TV
/-! the state of a body as trees -/
namespace TV
open PySem L2
section
variable (ca : Nat → Addr)
def OkSl (F H : Hp) (s : Option V) : Option T → List Addr → Prop
  | none, as => as = []
  | some t, as => ∃ v, s = some v ∧ Own ca F H t v as
def OkS (F H : Hp) : St → Env → List Addr → Prop
  | [], [], as => as = []
  | s :: σ, e :: η, as => ∃ a1 a2, as = a1 ++ a2 ∧ OkSl ca F H s e a1 ∧ OkS F H σ η a2
  | _, _, _ => False
def OkT (F H : Hp) : List (V × T) → List Addr → Prop
  | [], as => as = []
  | (v, t) :: r, as => ∃ a1 a2, as = a1 ++ a2 ∧ Own ca F H t v a1 ∧ OkT F H r a2
structure Ok (pn : List (Nat × V)) (R F H : Hp) (σ : St) (η : Env) (tmp : List (V × T)) : Prop where
  same : Same F H
  fr : ∀ a o, R a = some o → H a = some o ∧ F a = none
  own : ∃ a1 a2, OkS ca F H σ η a1 ∧ OkT ca F H tmp a2 ∧ (∀ a, (a1 ++ a2).count a ≤ 1) ∧ ∀ a ∈ a1 ++ a2, F a = none ∧ R a = none
  pins : ∀ x ∈ pn, σ[x.1]? = some (some x.2)
end
def KidsAt (ca : Nat → Addr) (H : Hp) : T → Addr → List V → Prop
  | .lst _ _, a, vs => H a = some (.lst vs)
  | .dic _ ks _, a, vs => DicAt H a ks vs
  | .obj _ c ns _, a, vs => ∃ dx, H a = some (.ins (ca c) dx (ns.zip vs)) ∧ ns.length = vs.length
  | _, _, _ => False
def PlV (ca : Nat → Addr) (H : Hp) : T → V → List Nat → V → Prop
  | _, u, [], v => u = v
  | t, u, j :: p, v => ∃ a vs k x, u = .ref a ∧ KidsAt ca H t a vs ∧ t.kids[j]? = some k ∧ vs[j]? = some x ∧ PlV ca H k x p v
def PlO (ca : Nat → Addr) (H : Hp) (σ : St) (η : Env) (i : Nat) (p : List Nat) (v : V) : Prop :=
  match p with
  | [] => σ[i]? = some (some v)
  | j :: p => ∃ t u, η[i]? = some (some t) ∧ σ[i]? = some (some u) ∧ PlV ca H t u (j :: p) v
section
variable {ca : Nat → Addr} {pn : List (Nat × V)} {R F F' H H' : Hp} {σ : St} {η : Env} {tmp tmp' : List (V × T)}
theorem OkS.len : ∀ {σ : St} {η : Env} {as : List Addr}, OkS ca F H σ η as → σ.length = η.length
  | [], [], _, _ => rfl
  | s :: σ, e :: η, _, h => by
    simp only [OkS] at h
    obtain ⟨_, _, _, _, h2⟩ := h
    rw [List.length_cons, List.length_cons, OkS.len h2]
  | [], _ :: _, _, h => by simp [OkS] at h
  | _ :: _, [], _, h => by simp [OkS] at h
theorem OkSl.frame (e : Same F F') {s : Option V} {t : Option T} {as : List Addr} (k : ∀ a ∈ as, ∀ o, H a = some o → H' a = some o) (h : OkSl ca F H s t as) : OkSl ca F' H' s t as := by
  cases t with
  | none => exact h
  | some t =>
    obtain ⟨v, e1, o⟩ := h
    exact ⟨v, e1, Own.frame e t v as k o⟩
theorem OkS.frame (e : Same F F') : ∀ {σ : St} {η : Env} {as : List Addr}, (∀ a ∈ as, ∀ o, H a = some o → H' a = some o) → OkS ca F H σ η as → OkS ca F' H' σ η as
  | [], [], _, _, h => h
  | s :: σ, x :: η, as, k, h => by
    simp only [OkS] at h ⊢
    obtain ⟨a1, a2, rfl, h1, h2⟩ := h
    exact ⟨a1, a2, rfl, h1.frame e fun a ha => k a (by simp [ha]), OkS.frame e (fun a ha => k a (by simp [ha])) h2⟩
  | [], _ :: _, _, _, h => by simp [OkS] at h
  | _ :: _, [], _, _, h => by simp [OkS] at h
theorem OkT.frame (e : Same F F') : ∀ {tmp : List (V × T)} {as : List Addr}, (∀ a ∈ as, ∀ o, H a = some o → H' a = some o) → OkT ca F H tmp as → OkT ca F' H' tmp as
  | [], _, _, h => h
  | (v, t) :: r, as, k, h => by
    simp only [OkT] at h ⊢
    obtain ⟨a1, a2, rfl, h1, h2⟩ := h
    exact ⟨a1, a2, rfl, Own.frame e t v a1 (fun a ha => k a (by simp [ha])) h1, OkT.frame e (fun a ha => k a (by simp [ha])) h2⟩
theorem OkS.focus : ∀ {σ : St} {η : Env} {as : List Addr} {i : Nat}, OkS ca F H σ η as → i < η.length → ∃ s e pre an post, σ[i]? = some s ∧ η[i]? = some e ∧ as = pre ++ an ++ post ∧ OkSl ca F H s e an ∧
    ∀ (F' H' : Hp) (s' : Option V) (e' : Option T) (an' : List Addr), Same F F' → (∀ a ∈ pre ++ post, ∀ o, H a = some o → H' a = some o) → OkSl ca F' H' s' e' an' → OkS ca F' H' (σ.set i s') (η.set i e') (pre ++ an' ++ post)
  | [], [], _, _, _, h => by simp at h
  | [], _ :: _, _, _, h, _ => by simp [OkS] at h
  | _ :: _, [], _, _, h, _ => by simp [OkS] at h
  | s :: σ, e :: η, as, 0, h, _ => by
    simp only [OkS] at h
    obtain ⟨a1, a2, rfl, h1, h2⟩ := h
    refine ⟨s, e, [], a1, a2, by simp, by simp, by simp, h1, fun F' H' s' e' an' sf k ho => ?_⟩
    simp only [List.set_cons_zero, OkS]
    exact ⟨an', a2, by simp, ho, h2.frame sf fun a ha => k a (by simp [ha])⟩
  | s :: σ, e :: η, as, i + 1, h, hi => by
    simp only [OkS] at h
    obtain ⟨a1, a2, rfl, h1, h2⟩ := h
    obtain ⟨s1, e1, pre, an, post, q1, q2, q3, q4, q5⟩ := OkS.focus (i := i) h2 (by simpa using hi)
    refine ⟨s1, e1, a1 ++ pre, an, post, by simpa using q1, by simpa using q2, by rw [q3]; simp, q4, fun F' H' s' e' an' sf k ho => ?_⟩
    simp only [List.set_cons_succ, OkS]
    exact ⟨a1, pre ++ an' ++ post, by simp, h1.frame sf fun a ha => k a (by simp [ha]), q5 F' H' s' e' an' sf (fun a ha => k a (by
      rcases List.mem_append.mp ha with z | z <;> simp [z])) ho⟩
theorem OkT.app : ∀ {l tmp : List (V × T)} {as : List Addr}, OkT ca F H (l ++ tmp) as ↔ ∃ a1 a2, as = a1 ++ a2 ∧ OkT ca F H l a1 ∧ OkT ca F H tmp a2
  | [], tmp, as => by
    simp only [List.nil_append, OkT]
    exact ⟨fun h => ⟨[], as, rfl, rfl, h⟩, fun ⟨a1, a2, e, e1, h⟩ => by rw [e, e1]; exact h⟩
  | (v, t) :: l, tmp, as => by
    simp only [List.cons_append, OkT]
    constructor
    · rintro ⟨a1, a2, rfl, h1, h2⟩
      obtain ⟨b1, b2, rfl, h3, h4⟩ := OkT.app.mp h2
      exact ⟨a1 ++ b1, b2, by simp, ⟨a1, b1, rfl, h1, h3⟩, h4⟩
    · rintro ⟨a1, a2, rfl, ⟨b1, b2, rfl, h1, h3⟩, h4⟩
      exact ⟨b1, b2 ++ a2, by simp, h1, OkT.app.mpr ⟨b2, a2, rfl, h3, h4⟩⟩
theorem OkT.perm {l l' : List (V × T)} (p : l.Perm l') : ∀ {as : List Addr}, OkT ca F H l as → ∃ as', OkT ca F H l' as' ∧ ∀ a, as'.count a = as.count a := by
  induction p with
  | nil => exact fun h => ⟨_, h, fun _ => rfl⟩
  | cons x _ ih =>
    intro as h
    obtain ⟨v, t⟩ := x
    simp only [OkT] at h
    obtain ⟨a1, a2, rfl, h1, h2⟩ := h
    obtain ⟨b, h3, h4⟩ := ih h2
    exact ⟨a1 ++ b, by simp only [OkT]; exact ⟨a1, b, rfl, h1, h3⟩, fun a => by simp [List.count_append, h4]⟩
  | swap x y l =>
    intro as h
    obtain ⟨v, t⟩ := x
    obtain ⟨u, s⟩ := y
    simp only [OkT] at h
    obtain ⟨a1, a2, rfl, h1, a3, a4, rfl, h2, h3⟩ := h
    exact ⟨a3 ++ (a1 ++ a4), by simp only [OkT]; exact ⟨a3, _, rfl, h2, a1, a4, rfl, h1, h3⟩, fun a => by simp only [List.count_append]; omega⟩
  | trans _ _ ih1 ih2 =>
    intro as h
    obtain ⟨b, h1, h2⟩ := ih1 h
    obtain ⟨c, h3, h4⟩ := ih2 h1
    exact ⟨c, h3, fun a => (h4 a).trans (h2 a)⟩
theorem mem_count {a : Addr} {l l' : List Addr} (h : l.count a = l'.count a) (m : a ∈ l) : a ∈ l' := by
  have := List.count_pos_iff.mpr m
  exact List.count_pos_iff.mp (by omega)
theorem mem_count_le {a : Addr} {l l' : List Addr} (h : l.count a ≤ l'.count a) (m : a ∈ l) : a ∈ l' := by
  have := List.count_pos_iff.mpr m
  exact List.count_pos_iff.mp (by omega)
/-- other temporaries, fewer or in another order -/
theorem Ok.tmps {h : ∀ as, OkT ca F H tmp as → ∃ as', OkT ca F H tmp' as' ∧ ∀ a, as'.count a ≤ as.count a} (o : Ok ca pn R F H σ η tmp) : Ok ca pn R F H σ η tmp' := by
  obtain ⟨a1, a2, h1, h2, h3, h4⟩ := o.own
  obtain ⟨b, h5, h6⟩ := h a2 h2
  refine ⟨o.same, o.fr, ⟨a1, b, h1, h5, fun a => ?_, fun a ha => h4 a ?_⟩, o.pins⟩
  · have := h3 a; have := h6 a
    simp only [List.count_append] at *; omega
  · rcases List.mem_append.mp ha with z | z
    · simp [z]
    · have := mem_count_le (h6 a) z; simp [this]
theorem Ok.perm (p : tmp.Perm tmp') (o : Ok ca pn R F H σ η tmp) : Ok ca pn R F H σ η tmp' :=
  Ok.tmps (h := fun as h => by
    obtain ⟨b, h1, h2⟩ := OkT.perm p h
    exact ⟨b, h1, fun a => by rw [h2]; exact Nat.le_refl _⟩) o
theorem Ok.drop {l : List (V × T)} (o : Ok ca pn R F H σ η (l ++ tmp)) : Ok ca pn R F H σ η tmp :=
  Ok.tmps (h := fun as h => by
    obtain ⟨a1, a2, rfl, h1, h2⟩ := OkT.app.mp h
    exact ⟨a2, h2, fun a => by simp only [List.count_append]; omega⟩) o
theorem Ok.drop1 {x : V × T} (o : Ok ca pn R F H σ η (x :: tmp)) : Ok ca pn R F H σ η tmp := Ok.drop (l := [x]) o
/-- the first temporary's own description -/
theorem Ok.top {v : V} {t : T} (o : Ok ca pn R F H σ η ((v, t) :: tmp)) : ∃ as, Own ca F H t v as := by
  obtain ⟨a1, a2, h1, h2, _⟩ := o.own
  simp only [OkT] at h2
  obtain ⟨b1, b2, _, h3, _⟩ := h2
  exact ⟨b1, h3⟩
theorem Ok.mem {v : V} {t : T} (o : Ok ca pn R F H σ η tmp) (m : (v, t) ∈ tmp) : ∃ as, Own ca F H t v as := by
  obtain ⟨l1, l2, rfl⟩ := List.append_of_mem m
  exact (Ok.drop (l := l1) o).top
theorem Ok.push {v : V} {t : T} (o : Ok ca pn R F H σ η tmp) (h : View ca F t v) (f : t.fz = true) : Ok ca pn R F H σ η ((v, t) :: tmp) :=
  Ok.tmps (h := fun as q => ⟨as, by simp only [OkT]; exact ⟨[], as, rfl, Own.mk_fz f h, q⟩, fun _ => Nat.le_refl _⟩) o
theorem OkSl.there {s : Option V} {t : Option T} {as : List Addr} (h : OkSl ca F H s t as) : ∀ a ∈ as, ∃ o, H a = some o := by
  cases t with
  | none => intro a ha; rw [show as = [] from h] at ha; cases ha
  | some t => obtain ⟨v, e1, o⟩ := h; exact Own.there t v as o
theorem OkS.there : ∀ {σ : St} {η : Env} {as : List Addr}, OkS ca F H σ η as → ∀ a ∈ as, ∃ o, H a = some o
  | [], [], _, h, b, hb => by rw [show _ = [] from h] at hb; cases hb
  | s :: σ, x :: η, as, h, b, hb => by
    simp only [OkS] at h
    obtain ⟨a1, a2, rfl, h1, h2⟩ := h
    rcases List.mem_append.mp hb with hb | hb
    · exact h1.there b hb
    · exact OkS.there h2 b hb
  | [], _ :: _, _, h, _, _ => by simp [OkS] at h
  | _ :: _, [], _, h, _, _ => by simp [OkS] at h
theorem OkT.there : ∀ {tmp : List (V × T)} {as : List Addr}, OkT ca F H tmp as → ∀ a ∈ as, ∃ o, H a = some o
  | [], _, h, b, hb => by rw [show _ = [] from h] at hb; cases hb
  | (v, t) :: r, as, h, b, hb => by
    simp only [OkT] at h
    obtain ⟨a1, a2, rfl, h1, h2⟩ := h
    rcases List.mem_append.mp hb with hb | hb
    · exact Own.there t v a1 h1 b hb
    · exact OkT.there h2 b hb
theorem same_new {p : Addr} {x : HO} (hp : H p = none) : Same H (upd H p x) := fun b y e => by rw [upd_ne (ne_of_none e hp)]; exact e
/-- an object more that is not told of -/
theorem Ok.alloc {p : Addr} {x : HO} (o : Ok ca pn R F H σ η tmp) (hp : H p = none) : Ok ca pn R F (upd H p x) σ η tmp := by
  have sm : Same H (upd H p x) := same_new hp
  obtain ⟨a1, a2, h1, h2, h3, h4⟩ := o.own
  exact ⟨o.same.trans sm, fun a y e => ⟨sm _ _ (o.fr a y e).1, (o.fr a y e).2⟩, ⟨a1, a2, h1.frame (Same.refl F) fun a _ y e => sm _ _ e, h2.frame (Same.refl F) fun a _ y e => sm _ _ e, h3, h4⟩, o.pins⟩
/-- more is told of: what is owned by nobody -/
theorem Ok.more {F' H' : Hp} (o : Ok ca pn R F H σ η tmp) (sf : Same F F') (sH : Same F' H') (hs : Same H H') (h : ∀ a x, H a = some x → F a = none → F' a = none) : Ok ca pn R F' H' σ η tmp := by
  obtain ⟨a1, a2, h1, h2, h3, h4⟩ := o.own
  refine ⟨sH, fun a y e => ⟨hs _ _ (o.fr a y e).1, h _ _ (o.fr a y e).1 (o.fr a y e).2⟩, ⟨a1, a2, h1.frame sf fun a _ y e => hs _ _ e, h2.frame sf fun a _ y e => hs _ _ e, h3, fun a ha => ⟨?_, (h4 a ha).2⟩⟩, o.pins⟩
  have : ∃ x, H a = some x := by
    rcases List.mem_append.mp ha with z | z
    · exact h1.there a z
    · exact h2.there a z
  obtain ⟨x, e⟩ := this
  exact h a x e (h4 a ha).1
/-- .. that is told of: the same object in F -/
theorem Ok.allocF {p : Addr} {x : HO} (o : Ok ca pn R F H σ η tmp) (hp : H p = none) : Ok ca pn R (upd F p x) (upd H p x) σ η tmp := by
  have fp : F p = none := o.same.free hp
  refine o.more (same_new fp) (fun b y e => ?_) (same_new hp) fun a y e n => ?_
  · by_cases z : b = p
    · subst z; rw [upd_same] at e ⊢; exact e
    · rw [upd_ne z] at e ⊢; exact o.same _ _ e
  · rw [upd_ne (ne_of_none e hp)]; exact n
theorem Ok.newTup {p : Addr} {ts : List T} {vs : List V} (o : Ok ca pn R F H σ η tmp) (hp : H p = none) (hv : Views ca F ts vs) (hf : fzs ts = true) :
    Same F (upd F p (.tup vs)) ∧ Ok ca pn R (upd F p (.tup vs)) (upd H p (.tup vs)) σ η ((.ref p, .tup ts) :: tmp) := by
  have sf : Same F (upd F p (.tup vs)) := same_new (o.same.free hp)
  refine ⟨sf, (o.allocF hp).push ?_ (by simpa [T.fz] using hf)⟩
  simp only [View]
  exact ⟨p, vs, rfl, upd_same, Views.mono sf ts vs hv⟩
/-- a new owned thing on top of the temporaries -/
theorem Ok.newOwn {v : V} {t : T} {as : List Addr} (o : Ok ca pn R F H σ η tmp) (hs : Same H H') (hw : Own ca F H' t v as) (hu : ∀ a, as.count a ≤ 1) (hn : ∀ a ∈ as, H a = none) : Ok ca pn R F H' σ η ((v, t) :: tmp) := by
  obtain ⟨a1, a2, h1, h2, h3, h4⟩ := o.own
  have no : ∀ a ∈ a1 ++ a2, ∃ x, H a = some x := fun a ha => by
    rcases List.mem_append.mp ha with z | z
    · exact h1.there a z
    · exact h2.there a z
  refine ⟨o.same.trans hs, fun a y e => ⟨hs _ _ (o.fr a y e).1, (o.fr a y e).2⟩, ⟨a1, as ++ a2, h1.frame (Same.refl F) fun a _ y e => hs _ _ e, by simp only [OkT]; exact ⟨as, a2, rfl, hw, h2.frame (Same.refl F) fun a _ y e => hs _ _ e⟩, fun a => ?_, fun a ha => ?_⟩, o.pins⟩
  · by_cases m : a ∈ as
    · have z : (a1 ++ a2).count a = 0 := List.count_eq_zero.mpr fun q => by
        obtain ⟨x, e⟩ := no a q
        rw [hn a m] at e; cases e
      have := hu a
      simp only [List.count_append] at *; omega
    · have z : as.count a = 0 := List.count_eq_zero.mpr m
      have := h3 a
      simp only [List.count_append] at *; omega
  · by_cases m : a ∈ as
    · refine ⟨o.same.free (hn a m), ?_⟩
      cases q : R a with
      | none => rfl
      | some y => have := (o.fr a y q).1; rw [hn a m] at this; cases this
    · exact h4 a (by
        simp only [List.mem_append] at ha ⊢
        rcases ha with z | z | z
        · exact .inl z
        · exact absurd z m
        · exact .inr z)
theorem Ok.newLst {p : Addr} {ts : List T} {vs : List V} (o : Ok ca pn R F H σ η tmp) (hp : H p = none) (hv : Views ca F ts vs) (hf : fzs ts = true) :
    Ok ca pn R F (upd H p (.lst vs)) σ η ((.ref p, .lst true ts) :: tmp) := by
  refine o.newOwn (as := [p]) (same_new hp) ?_ (fun a => by simp only [List.count_cons, List.count_nil]; split <;> omega) (by simpa using hp)
  simp only [Own]
  exact ⟨p, vs, [], rfl, rfl, upd_same, Owns.mk_fzs hf hv⟩
theorem Ok.len (o : Ok ca pn R F H σ η tmp) : σ.length = η.length := by
  obtain ⟨a1, a2, h1, _⟩ := o.own
  exact h1.len
/-- a slot's own description -/
theorem Ok.slot {i : Nat} {t : T} (o : Ok ca pn R F H σ η tmp) (h : η[i]? = some (some t)) : ∃ v as, σ[i]? = some (some v) ∧ Own ca F H t v as := by
  obtain ⟨a1, a2, h1, _⟩ := o.own
  have hi : i < η.length := (List.getElem?_eq_some_iff.mp h).1
  obtain ⟨s, e, pre, an, post, q1, q2, q3, q4, q5⟩ := h1.focus hi
  rw [h] at q2
  obtain rfl := Option.some.inj q2
  obtain ⟨v, e1, w⟩ := q4
  exact ⟨v, an, by rw [q1, e1], w⟩
/-- x = e: the top temporary goes to a slot -/
theorem Ok.setSlot {i : Nat} {v : V} {t : T} (o : Ok ca pn R F H σ η ((v, t) :: tmp)) (hi : i < η.length) (hp : i ∉ pn.map (·.1)) : Ok ca pn R F H (σ.set i (some v)) (η.set i (some t)) tmp := by
  obtain ⟨a1, a2, h1, h2, h3, h4⟩ := o.own
  simp only [OkT] at h2
  obtain ⟨b1, b2, rfl, h5, h6⟩ := h2
  obtain ⟨s, e, pre, an, post, q1, q2, rfl, q4, q5⟩ := h1.focus hi
  refine ⟨o.same, o.fr, ⟨pre ++ b1 ++ post, b2, q5 F H (some v) (some t) b1 (Same.refl F) (fun _ _ _ e => e) ⟨v, rfl, h5⟩, h6, fun a => ?_, fun a ha => h4 a ?_⟩, fun x hx => ?_⟩
  · have := h3 a
    simp only [List.count_append] at *; omega
  · simp only [List.mem_append] at ha ⊢
    rcases ha with ((z | z) | z) | z <;> simp [z]
  · have ne : x.1 ≠ i := fun z => hp (z ▸ List.mem_map_of_mem (f := (·.1)) hx)
    rw [List.getElem?_set_ne (Ne.symm ne)]
    exact o.pins x hx
/-- a slot is forgotten -/
theorem Ok.clear {i : Nat} (o : Ok ca pn R F H σ η tmp) (s' : Option V) (hp : i ∉ pn.map (·.1)) : Ok ca pn R F H (σ.set i s') (η.set i none) tmp := by
  obtain ⟨a1, a2, h1, h2, h3, h4⟩ := o.own
  by_cases hi : i < η.length
  · obtain ⟨s, e, pre, an, post, q1, q2, rfl, q4, q5⟩ := h1.focus hi
    refine ⟨o.same, o.fr, ⟨pre ++ [] ++ post, a2, q5 F H s' none [] (Same.refl F) (fun _ _ _ e => e) rfl, h2, fun a => ?_, fun a ha => h4 a ?_⟩, fun x hx => ?_⟩
    · have := h3 a
      simp only [List.count_append, List.count_nil] at *; omega
    · simp only [List.mem_append] at ha ⊢
      rcases ha with ((z | z) | z) | z
      · simp [z]
      · cases z
      · simp [z]
      · simp [z]
    · have ne : x.1 ≠ i := fun z => hp (z ▸ List.mem_map_of_mem (f := (·.1)) hx)
      rw [List.getElem?_set_ne (Ne.symm ne)]
      exact o.pins x hx
  · have hl := o.len
    rw [List.set_eq_of_length_le (show σ.length ≤ i by omega), List.set_eq_of_length_le (show η.length ≤ i by omega)]
    exact o
/-! ### places -/
theorem zip_snd_inj {α : Type} : ∀ {l l' : List α} {vs us : List V}, l.length = vs.length → l'.length = us.length → l.zip vs = l'.zip us → vs = us
  | [], [], [], [], _, _, _ => rfl
  | a :: l, b :: l', v :: vs, u :: us, h1, h2, h => by
    simp only [List.zip_cons_cons, List.cons.injEq, Prod.mk.injEq] at h
    rw [h.1.2, zip_snd_inj (by simpa using h1) (by simpa using h2) h.2]
  | [], _, _ :: _, _, h, _, _ => by simp at h
  | _ :: _, _, [], _, h, _, _ => by simp at h
  | _, [], _, _ :: _, _, h, _ => by simp at h
  | _, _ :: _, _, [], _, h, _ => by simp at h
  | [], _ :: _, [], _ :: _, _, _, h => by simp at h
  | _ :: _, [], _ :: _, [], _, _, h => by simp at h
theorem DicAt.inj {a : Addr} {ks : List T} {vs us : List V} (d : DicAt H a ks vs) (d' : DicAt H a ks us) : vs = us := by
  rcases d with ⟨kk, e, l, x⟩ | ⟨kk, e, l, x⟩
  · rcases d' with ⟨kk', e', l', x'⟩ | ⟨kk', e', l', x'⟩
    · rw [x] at x'
      exact zip_snd_inj l l' (by injection (Option.some.inj x'))
    · rw [x] at x'
      injection x' with x'
      cases x'
  · rcases d' with ⟨kk', e', l', x'⟩ | ⟨kk', e', l', x'⟩
    · rw [x] at x'
      injection x' with x'
      cases x'
    · rw [x] at x'
      exact zip_snd_inj l l' (by injection (Option.some.inj x'))
theorem KidsAt.inj {t : T} {a : Addr} {vs us : List V} (d : KidsAt ca H t a vs) (d' : KidsAt ca H t a us) : vs = us := by
  cases t with
  | lst o ts =>
    have d : H a = some (.lst vs) := d
    have d' : H a = some (.lst us) := d'
    rw [d] at d'
    injection d' with d'
    injection d'
  | dic o ks ts => exact DicAt.inj d d'
  | obj o c ns ts =>
    obtain ⟨dx, e, l⟩ := d
    obtain ⟨dx', e', l'⟩ := d'
    rw [e] at e'
    injection e' with e'
    injection e' with _ _ e'
    exact zip_snd_inj l l' e'
  | _ => exact False.elim d
/-- an owned node: its object, its children, and how it is put together again -/
theorem Own.node {t : T} {v : V} {as : List Addr} (hf : t.fl = true) (o : Own ca F H t v as) : ∃ a xs vs r, v = .ref a ∧ as = (a :: xs) ++ r ∧ KidsAt ca H t a vs ∧ Owns ca F H t.kids vs r ∧
    ∀ (F' H' : Hp) (ks' : List T) (r' : List Addr), (∀ b ∈ a :: xs, ∀ x, H b = some x → H' b = some x) → Owns ca F' H' ks' vs r' → Own ca F' H' (t.setKids ks') v ((a :: xs) ++ r') := by
  cases t with
  | lst b ts =>
    cases b with
    | false => simp [T.fl] at hf
    | true =>
      simp only [Own] at o
      obtain ⟨a, vs, r, e1, rfl, s, x⟩ := o
      refine ⟨a, [], vs, r, e1, rfl, s, x, fun F' H' ks' r' k y => ?_⟩
      simp only [T.setKids, Own]
      exact ⟨a, vs, r', e1, rfl, k _ (by simp) _ s, y⟩
  | dic b ks ts =>
    cases b with
    | false => simp [T.fl] at hf
    | true =>
      simp only [Own] at o
      obtain ⟨a, vs, r, e1, rfl, s, x⟩ := o
      refine ⟨a, [], vs, r, e1, rfl, s, x, fun F' H' ks' r' k y => ?_⟩
      simp only [T.setKids, Own]
      exact ⟨a, vs, r', e1, rfl, s.mono (k _ (by simp)), y⟩
  | obj b c ns ts =>
    cases b with
    | false => simp [T.fl] at hf
    | true =>
      simp only [Own] at o
      obtain ⟨a, dx, vs, r, e1, rfl, s, s2, l, x⟩ := o
      refine ⟨a, [dx], vs, r, e1, rfl, ⟨dx, s, l⟩, x, fun F' H' ks' r' k y => ?_⟩
      simp only [T.setKids, Own]
      exact ⟨a, dx, vs, r', e1, rfl, k _ (by simp) _ s, k _ (by simp) _ s2, l, y⟩
  | _ => simp [T.fl] at hf
theorem set_same {α : Type} : ∀ {l : List α} {j : Nat} {x : α}, l[j]? = some x → l.set j x = l
  | [], _, _, h => by simp at h
  | a :: l, 0, x, h => by simp at h; simp [h]
  | a :: l, j + 1, x, h => by simp at h; simp [set_same h]
/-- a node below an owned one -/
theorem Own.focus : ∀ {p : List Nat} {t : T} {v : V} {as : List Addr} {n : T}, Own ca F H t v as → t.at p = some n → ∃ w pre an post, PlV ca H t v p w ∧ n.fl = true ∧ (∀ a, as.count a = (an ++ (pre ++ post)).count a) ∧ Own ca F H n w an ∧
    ∀ (F' H' : Hp) (n' : T) (an' : List Addr), Same F F' → (∀ a ∈ pre ++ post, ∀ o, H a = some o → H' a = some o) → Own ca F' H' n' w an' → ∃ as', Own ca F' H' (t.put p n') v as' ∧ ∀ a, as'.count a = (an' ++ (pre ++ post)).count a
  | [], t, v, as, n, o, h => by
    simp only [T.at] at h
    split at h
    · obtain rfl := Option.some.inj h
      refine ⟨v, [], as, [], rfl, by assumption, by simp, o, fun F' H' n' an' _ _ w => ⟨an', by simpa only [T.put] using w, by simp⟩⟩
    · cases h
  | j :: p, t, v, as, n, o, h => by
    simp only [T.at] at h
    split at h
    · rename_i hf
      obtain ⟨a, xs, vs, r, rfl, rfl, hk, hos, back⟩ := o.node hf
      split at h
      · rename_i k ek
        obtain ⟨u, pre, ak, post, e1, rfl, ok1, rest⟩ := hos.focus ek
        obtain ⟨w, pre', an, post', hp, hnf, hc, hn, back'⟩ := Own.focus (p := p) ok1 h
        refine ⟨w, (a :: xs) ++ pre, an, post ++ (pre' ++ post'), ⟨a, vs, k, u, rfl, hk, ek, e1, hp⟩, hnf, fun b => ?_, hn, fun F' H' n' an' sf kp w' => ?_⟩
        · have := hc b
          simp only [List.count_append] at *; omega
        · obtain ⟨ak', hk', hc'⟩ := back' F' H' n' an' sf (fun b hb => kp b (by
            simp only [List.mem_append] at hb ⊢
            rcases hb with z | z <;> simp [z])) w'
          have hos' := rest F' H' (k.put p n') u ak' sf (fun b hb => kp b (by
            simp only [List.mem_append] at hb ⊢
            rcases hb with z | z <;> simp [z])) hk'
          rw [set_same e1] at hos'
          refine ⟨(a :: xs) ++ (pre ++ ak' ++ post), ?_, fun b => ?_⟩
          · simp only [T.put, ek]
            exact back F' H' _ _ (fun b hb x e => kp b (by
              simp only [List.mem_append]
              exact .inl (.inl hb)) x e) hos'
          · have := hc' b
            simp only [List.count_append] at *; omega
      · cases h
    · cases h
theorem PlV.inj : ∀ {p : List Nat} {t : T} {u v w : V}, PlV ca H t u p v → PlV ca H t u p w → v = w
  | [], _, _, _, _, h, h' => (show _ = _ from h).symm.trans h'
  | j :: p, t, u, v, w, h, h' => by
    obtain ⟨a, vs, k, x, rfl, h1, h2, h3, h4⟩ := h
    obtain ⟨a', vs', k', x', e, h1', h2', h3', h4'⟩ := h'
    injection e with e
    subst e
    rw [h2] at h2'
    obtain rfl := Option.some.inj h2'
    obtain rfl := h1.inj h1'
    rw [h3] at h3'
    obtain rfl := Option.some.inj h3'
    exact PlV.inj h4 h4'
theorem get_some {i : Nat} {p : List Nat} {n : T} (h : get η i p = some n) : ∃ t, η[i]? = some (some t) ∧ t.at p = some n := by
  unfold get at h
  split at h
  · exact ⟨_, by assumption, h⟩
  · cases h
theorem put_eq {i : Nat} {p : List Nat} {t n : T} (h : η[i]? = some (some t)) : put η i p n = η.set i (some (t.put p n)) := by
  unfold put; rw [h]
/-- the node at a place, and how it may be changed -/
theorem Ok.focus {i : Nat} {p : List Nat} {n : T} (o : Ok ca pn R F H σ η tmp) (h : get η i p = some n) : ∃ v an ar at', PlO ca H σ η i p v ∧ n.fl = true ∧ Own ca F H n v an ∧ OkT ca F H tmp at' ∧ (∀ a, (an ++ ar ++ at').count a ≤ 1) ∧
    (∀ a ∈ an ++ ar ++ at', F a = none ∧ R a = none) ∧ ∀ (F' H' : Hp) (n' : T) (an' : List Addr), Same F F' → (∀ a ∈ ar, ∀ o, H a = some o → H' a = some o) → Own ca F' H' n' v an' →
      ∃ as', OkS ca F' H' σ (put η i p n') as' ∧ ∀ a, as'.count a = (an' ++ ar).count a := by
  obtain ⟨t, ht, hat⟩ := get_some h
  obtain ⟨a1, a2, h1, h2, h3, h4⟩ := o.own
  obtain ⟨s, e, pre, ai, post, q1, q2, rfl, q4, q5⟩ := h1.focus (List.getElem?_eq_some_iff.mp ht).1
  rw [ht] at q2
  obtain rfl := Option.some.inj q2
  obtain ⟨u, rfl, w⟩ := q4
  obtain ⟨v, pre', an, post', hp, hnf, hc, hn, back⟩ := w.focus hat
  refine ⟨v, an, (pre' ++ post') ++ (pre ++ post), a2, ?_, hnf, hn, h2, fun a => ?_, fun a ha => h4 a ?_, fun F' H' n' an' sf k w' => ?_⟩
  · cases p with
    | nil =>
      have e : u = v := hp
      subst e; exact q1
    | cons j p => exact ⟨t, u, ht, q1, hp⟩
  · have := h3 a; have := hc a
    simp only [List.count_append] at *; omega
  · refine mem_count_le ?_ ha
    have := hc a
    simp only [List.count_append] at *; omega
  · obtain ⟨ai', hai, hc'⟩ := back F' H' n' an' sf (fun a ha => k a (by simp only [List.mem_append] at ha ⊢; exact .inl ha)) w'
    have q := q5 F' H' (some u) (some (t.put p n')) ai' sf (fun a ha => k a (by simp only [List.mem_append] at ha ⊢; exact .inr ha)) ⟨u, rfl, hai⟩
    rw [set_same q1] at q
    refine ⟨_, by rw [put_eq ht]; exact q, fun a => ?_⟩
    have := hc' a
    simp only [List.count_append] at *; omega
theorem PlO.inj {i : Nat} {p : List Nat} {v w : V} (h : PlO ca H σ η i p v) (h' : PlO ca H σ η i p w) : v = w := by
  cases p with
  | nil =>
    have h : σ[i]? = some (some v) := h
    have h' : σ[i]? = some (some w) := h'
    rw [h] at h'
    exact Option.some.inj (Option.some.inj h')
  | cons j p =>
    obtain ⟨t, u, h1, h2, h3⟩ := h
    obtain ⟨t', u', h1', h2', h3'⟩ := h'
    rw [h1] at h1'
    rw [h2] at h2'
    obtain rfl := Option.some.inj (Option.some.inj h1')
    obtain rfl := Option.some.inj (Option.some.inj h2')
    exact h3.inj h3'
theorem KidsAt.mono {t : T} {a : Addr} {vs : List V} (e : Same H H') (d : KidsAt ca H t a vs) : KidsAt ca H' t a vs := by
  cases t with
  | lst o ts => exact e _ _ d
  | dic o ks ts => exact DicAt.mono d (e a)
  | obj o c ns ts => obtain ⟨dx, x, l⟩ := d; exact ⟨dx, e _ _ x, l⟩
  | _ => exact False.elim d
theorem PlV.mono (e : Same H H') : ∀ {p : List Nat} {t : T} {u v : V}, PlV ca H t u p v → PlV ca H' t u p v
  | [], _, _, _, h => h
  | j :: p, t, u, v, h => by
    obtain ⟨a, vs, k, x, rfl, h1, h2, h3, h4⟩ := h
    exact ⟨a, vs, k, x, rfl, h1.mono e, h2, h3, PlV.mono e h4⟩
theorem PlO.mono {i : Nat} {p : List Nat} {v : V} (e : Same H H') (h : PlO ca H σ η i p v) : PlO ca H' σ η i p v := by
  cases p with
  | nil => exact h
  | cons j p =>
    obtain ⟨t, u, h1, h2, h3⟩ := h
    exact ⟨t, u, h1, h2, h3.mono e⟩
/-- the thing at a place is frozen -/
theorem Ok.freezeP {i : Nat} {p : List Nat} {n : T} {v : V} (o : Ok ca pn R F H σ η tmp) (h : get η i p = some n) (hp : PlO ca H σ η i p v) :
    ∃ F', Same F F' ∧ Ok ca pn R F' H σ (put η i p n.frz) tmp ∧ View ca F' n.frz v ∧ n.frz.fz = true := by
  obtain ⟨w, an, ar, at', hp', hf, hn, ht, hc, hm, back⟩ := o.focus h
  obtain rfl := hp.inj hp'
  obtain ⟨f1, f2⟩ := hn.freeze (S := an) o.same _ _ _ fun a ha => ha
  have sf : Same F (ext F H an) := ext_same o.same
  obtain ⟨as', q1, q2⟩ := back (ext F H an) H n.frz [] sf (fun _ _ _ e => e) (Own.mk_fz f2 f1)
  refine ⟨_, sf, ⟨ext_le o.same, fun a y e => ⟨(o.fr a y e).1, ?_⟩, ⟨as', at', q1, ht.frame sf fun _ _ _ e => e, fun a => ?_, fun a ha => ?_⟩, o.pins⟩, f1, f2⟩
  · rw [ext_out fun m => ?_]
    · exact (o.fr a y e).2
    · have := (hm a (by simp [m])).2
      rw [e] at this; cases this
  · have := hc a; have := q2 a
    simp only [List.count_append, List.count_nil] at *; omega
  · have ma : a ∈ ar ++ at' := by
      refine mem_count_le ?_ ha
      have := q2 a
      simp only [List.count_append, List.count_nil] at *; omega
    have na : a ∉ an := fun m => by
      have h1 := List.count_pos_iff.mpr m
      have h2 := List.count_pos_iff.mpr ma
      have := hc a
      simp only [List.count_append] at *; omega
    have q := hm a (by simp only [List.mem_append] at ma ⊢; rcases ma with z | z <;> simp [z])
    exact ⟨by rw [ext_out na]; exact q.1, q.2⟩
/-- the top temporary is frozen -/
theorem Ok.freezeT {v : V} {t : T} (o : Ok ca pn R F H σ η ((v, t) :: tmp)) : ∃ F', Same F F' ∧ Ok ca pn R F' H σ η tmp ∧ View ca F' t.frz v ∧ t.frz.fz = true := by
  obtain ⟨a1, a2, h1, h2, h3, h4⟩ := o.own
  simp only [OkT] at h2
  obtain ⟨b1, b2, rfl, h5, h6⟩ := h2
  obtain ⟨f1, f2⟩ := h5.freeze (S := b1) o.same _ _ _ fun a ha => ha
  have sf : Same F (ext F H b1) := ext_same o.same
  refine ⟨_, sf, ⟨ext_le o.same, fun a y e => ⟨(o.fr a y e).1, ?_⟩, ⟨a1, b2, h1.frame sf fun _ _ _ e => e, h6.frame sf fun _ _ _ e => e, fun a => ?_, fun a ha => ?_⟩, o.pins⟩, f1, f2⟩
  · rw [ext_out fun m => ?_]
    · exact (o.fr a y e).2
    · have := (h4 a (by simp [m])).2
      rw [e] at this; cases this
  · have := h3 a
    simp only [List.count_append] at *; omega
  · have na : a ∉ b1 := fun m => by
      have h1 := List.count_pos_iff.mpr m
      have h2 := List.count_pos_iff.mpr ha
      have := h3 a
      simp only [List.count_append] at *; omega
    have q := h4 a (by simp only [List.mem_append] at ha ⊢; rcases ha with z | z <;> simp [z])
    exact ⟨by rw [ext_out na]; exact q.1, q.2⟩
end
end TV
/-! readings by evaluation: the judgements -/
namespace TV
open PySem L2

/-- what stands around a body -/
structure Par where
  K : PySem.W.Frag
  ca : Nat → Addr
  xf : Nat → Str
  pn : List (Nat × V)
abbrev Par.Ok (G : Par) := TV.Ok G.ca G.pn
abbrev Par.View (G : Par) := TV.View G.ca
abbrev Par.Views (G : Par) := TV.Views G.ca
abbrev Par.Own (G : Par) := TV.Own G.ca
abbrev Par.Owns (G : Par) := TV.Owns G.ca

/-- an exception's own dict -/
def Exh (G : Par) (F H : Hp) (c : Nat) (p : Option T) (d : Option Addr) : Prop :=
  match p with
  | none => d = none
  | some t => ∃ a v, d = some a ∧ H a = some (.xd [(G.xf c, v)]) ∧ G.View F t v
def EvP (G : Par) (W : WX) (b : Bool) (R F H : Hp) (σ : St) (tmp : List (V × T)) (r : TV.R (Opd × Env)) (Q : VK) : Prop :=
  match r with
  | .ok (.v t, η') => ∀ F' H' v, Same F F' → (b = true → Same H H') → G.Ok R F' H' σ η' ((v, t) :: tmp) → Q v H'
  | .ok (.pl i p, η') => ∀ F' H' v, Same F F' → (b = true → Same H H') → G.Ok R F' H' σ η' tmp → PlO G.ca H' σ η' i p v → Q v H'
  | .exc c p η' => ∀ F' H' d, Same F F' → G.Ok R F' H' σ η' tmp → Exh G F' H' c p d → W (.ref (G.ca c)) d σ H'
  | .err => False
/-- the reading of an expression that evaluates as f -/
def IE (G : Par) (W : WX) (b : Bool) (f : Env → TV.R (Opd × Env)) : TE := fun σ H Q => ∃ R F η tmp, G.Ok R F H σ η tmp ∧ EvP G W b R F H σ tmp (f η) Q
/-- several operands -/
def tms : List Opd → List V → List (V × T)
  | .v t :: os, v :: vs => tms os vs ++ [(v, t)]
  | .pl _ _ :: os, _ :: vs => tms os vs
  | _, _ => []
def Pls (G : Par) (H : Hp) (σ : St) (η : Env) : List Opd → List V → Prop
  | [], vs => vs = []
  | .v _ :: os, vs => ∃ v r, vs = v :: r ∧ Pls G H σ η os r
  | .pl i p :: os, vs => ∃ v r, vs = v :: r ∧ PlO G.ca H σ η i p v ∧ Pls G H σ η os r
def EvPs (G : Par) (W : WX) (b : Bool) (R F H : Hp) (σ : St) (tmp : List (V × T)) (r : TV.R (List Opd × Env)) (Q : List V → Hp → Prop) : Prop :=
  match r with
  | .ok (os, η') => ∀ F' H' vs, Same F F' → (b = true → Same H H') → G.Ok R F' H' σ η' (tms os vs ++ tmp) → Pls G H' σ η' os vs → Q vs H'
  | .exc c p η' => ∀ F' H' d, Same F F' → G.Ok R F' H' σ η' tmp → Exh G F' H' c p d → W (.ref (G.ca c)) d σ H'
  | .err => False
def IA (G : Par) (W : WX) (fs : List (Bool × (Env → TV.R (Opd × Env)))) : TA := fun σ H Q => ∃ R F η tmp, G.Ok R F H σ η tmp ∧ EvPs G W (fs.all (·.1)) R F H σ tmp (evL fs η) Q

section
variable {X : Cx} {G : Par} {W : WX}
theorem pe_by {e : Expr} {te te' : TE} (h : PE X e te) (k : ∀ σ H Q, te' σ H Q → te σ H Q) : PE X e te' :=
  ⟨fun pins s σ H Q I q => h.run pins s σ H Q I (k σ H Q q)⟩
theorem pt_by {e : Expr} {te te' : TT} (h : PT X e te) (k : ∀ σ H Q, te' σ H Q → te σ H Q) : PT X e te' :=
  ⟨fun pins s σ H Q I q => h.run pins s σ H Q I (k σ H Q q)⟩
theorem pa_by {es : List Expr} {t t' : TA} (h : PA X es t) (k : ∀ σ H Q, t' σ H Q → t σ H Q) : PA X es t' :=
  ⟨fun pos pins s σ H Q I q => h.run pos pins s σ H Q I (k σ H Q q)⟩
theorem ps_by {st : Stmt} {t t' : TS} (h : PS X st t) (k : ∀ D σ H, t' D σ H → t D σ H) : PS X st t' :=
  ⟨fun pins s σ H D I q => h.run pins s σ H D I (k D σ H q)⟩
theorem pss_by {st : List Stmt} {t t' : TS} (h : PSs X st t) (k : ∀ D σ H, t' D σ H → t D σ H) : PSs X st t' :=
  ⟨fun pins s σ H D I q => h.run pins s σ H D I (k D σ H q)⟩

theorem PlO.stay {H H' : Hp} {σ : St} {η η' : Env} {i : Nat} {p : List Nat} {v : V} {b : Bool} (h : PlO G.ca H σ η i p v) (hs : TV.stay (.pl i p) b η η' = true) (k : b = true → Same H H') : PlO G.ca H' σ η' i p v := by
  cases p with
  | nil => exact h
  | cons j p =>
    simp only [TV.stay, Bool.and_eq_true] at hs
    have e := beqE_eq _ _ hs.2
    subst e
    exact PlO.mono (k hs.1) h
/-- operands one by one -/
theorem ia_cons {σ : St} {H : Hp} {Q : List V → Hp → Prop} {f : Bool × (Env → TV.R (Opd × Env))} {fs : List (Bool × (Env → TV.R (Opd × Env)))} (h : IA G W (f :: fs) σ H Q) : tCons (IE G W f.1 f.2) (IA G W fs) σ H Q := by
  obtain ⟨R, F, η, tmp, o, h⟩ := h
  refine ⟨R, F, η, tmp, o, ?_⟩
  simp only [evL] at h
  cases e : f.2 η with
  | err => rw [e] at h; exact h
  | exc c p η' => rw [e] at h; exact h
  | ok r =>
    obtain ⟨x, η1⟩ := r
    rw [e] at h
    have h : EvPs G W _ R F H σ tmp ((evL fs η1).bind _) Q := h
    have main : ∀ (F1 H1 : Hp) (tmp1 : List (V × T)) (u : V), Same F F1 → (f.1 = true → Same H H1) → G.Ok R F1 H1 σ η1 tmp1 → (∀ (os : List Opd) (us : List V), tms (x :: os) (u :: us) ++ tmp = tms os us ++ tmp1) →
        (∀ σ' F' H', G.Ok R F' H' σ' η1 tmp1 → True) → (∀ (F' H' : Hp) (η' : Env), G.Ok R F' H' σ η' tmp1 → G.Ok R F' H' σ η' tmp) →
        (∀ (H' : Hp) (η' : Env) (os : List Opd) (us : List V), TV.stay x (fs.all (·.1)) η1 η' = true → ((fs.all (·.1)) = true → Same H1 H') → Pls G H' σ η' os us → Pls G H' σ η' (x :: os) (u :: us)) →
        IA G W fs σ H1 fun us H2 => Q (u :: us) H2 := by
      intro F1 H1 tmp1 u sf sH o1 ht _ hd hp
      refine ⟨R, F1, η1, tmp1, o1, ?_⟩
      cases e2 : evL fs η1 with
      | err => rw [e2] at h; exact h
      | exc c p η' =>
        rw [e2] at h
        exact fun F' H' d s1 o' ex => h F' H' d (sf.trans s1) (hd F' H' η' o') ex
      | ok r2 =>
        obtain ⟨os, η2⟩ := r2
        rw [e2] at h
        simp only [TV.R.bind] at h
        split at h
        · rename_i hst
          intro F' H' us s1 s2 o' pl
          refine h F' H' (u :: us) (sf.trans s1) (fun hb => ?_) (by rw [ht]; exact o') (hp H' η2 os us hst s2 pl)
          simp only [List.all_cons, Bool.and_eq_true] at hb
          exact (sH hb.1).trans (s2 hb.2)
        · exact False.elim h
    cases x with
    | v t =>
      intro F' H' v s1 s2 o'
      refine main F' H' _ v s1 s2 o' (fun os us => by simp [tms]) (fun _ _ _ _ => trivial) (fun _ _ _ q => q.drop1) fun _ _ os us _ _ pl => ?_
      simp only [Pls]
      exact ⟨v, us, rfl, pl⟩
    | pl i p =>
      intro F' H' v s1 s2 o' hp
      refine main F' H' _ v s1 s2 o' (fun os us => by simp [tms]) (fun _ _ _ _ => trivial) (fun _ _ _ q => q) fun H2 η2 os us hst s3 pl => ?_
      simp only [Pls]
      exact ⟨v, us, rfl, hp.stay hst s3, pl⟩
theorem ia_nil {σ : St} {H : Hp} {Q : List V → Hp → Prop} (h : IA G W [] σ H Q) : tNil σ H Q := by
  obtain ⟨R, F, η, tmp, o, h⟩ := h
  exact h F H [] (Same.refl F) (fun _ => Same.refl H) (by simpa [tms] using o) (by simp [Pls])
theorem pa_nilI : PA X [] (IA G W []) := pa_by pa_nil fun _ _ _ h => ia_nil h
theorem pa_consI {e : Expr} {es : List Expr} {f : Bool × (Env → TV.R (Opd × Env))} {fs : List (Bool × (Env → TV.R (Opd × Env)))} (he : PE X e (IE G W f.1 f.2)) (hes : PA X es (IA G W fs)) (hs : starEach (e :: es) X.env = (false, eval e X.env) :: starEach es X.env) :
    PA X (e :: es) (IA G W (f :: fs)) := pa_by (pa_cons he hes hs) fun _ _ _ h => ia_cons h
/-- two operands of an operator -/
theorem ia_two {σ : St} {H : Hp} {r : R2} {Q : VK} {f g : Bool × (Env → TV.R (Opd × Env))} (h : IA G W [f, g] σ H fun vs H1 => ∃ x y, vs = [x, y] ∧ r x y H1 Q) : tOp r (IE G W f.1 f.2) (IE G W g.1 g.2) σ H Q := by
  have h1 := ia_cons h
  refine pe_mono h1 fun x H1 h2 => ?_
  refine pe_mono (ia_cons h2) fun y H2 h3 => ?_
  obtain ⟨x', y', e, q⟩ := ia_nil h3
  cases e
  exact q
where
  pe_mono {σ : St} {H : Hp} {b : Bool} {f : Env → TV.R (Opd × Env)} {Q Q' : VK} (h : IE G W b f σ H Q) (k : ∀ v H', Q v H' → Q' v H') : IE G W b f σ H Q' := by
    obtain ⟨R, F, η, tmp, o, h⟩ := h
    refine ⟨R, F, η, tmp, o, ?_⟩
    cases e : f η with
    | err => rw [e] at h; exact h
    | exc c p η' => rw [e] at h; exact h
    | ok r =>
      obtain ⟨x, η1⟩ := r
      rw [e] at h
      cases x with
      | v t => exact fun F' H' v a b c => k _ _ (h F' H' v a b c)
      | pl i p => exact fun F' H' v a b c d => k _ _ (h F' H' v a b c d)
theorem ie_mono {σ : St} {H : Hp} {b : Bool} {f : Env → TV.R (Opd × Env)} {Q Q' : VK} (h : IE G W b f σ H Q) (k : ∀ v H', Q v H' → Q' v H') : IE G W b f σ H Q' := ia_two.pe_mono h k
theorem ia_mono {σ : St} {H : Hp} {fs : List (Bool × (Env → TV.R (Opd × Env)))} {Q Q' : List V → Hp → Prop} (h : IA G W fs σ H Q) (k : ∀ v H', Q v H' → Q' v H') : IA G W fs σ H Q' := by
  obtain ⟨R, F, η, tmp, o, h⟩ := h
  refine ⟨R, F, η, tmp, o, ?_⟩
  cases e : evL fs η with
  | err => rw [e] at h; exact h
  | exc c p η' => rw [e] at h; exact h
  | ok r =>
    obtain ⟨x, η1⟩ := r
    rw [e] at h
    exact fun F' H' v a b c d => k _ _ (h F' H' v a b c d)
/-- one operand as a list -/
theorem ia_one {σ : St} {H : Hp} {Q : VK} {b : Bool} {f : Env → TV.R (Opd × Env)} (h : IA G W [(b, f)] σ H fun vs H1 => ∃ x, vs = [x] ∧ Q x H1) : IE G W b f σ H Q := by
  refine ie_mono (ia_cons h) fun x H1 h2 => ?_
  obtain ⟨x', e, q⟩ := ia_nil h2
  cases e
  exact q

/-! ### operands read -/
/-- a tree's value: its root stands in H, its children are frozen -/
def CV (ca : Nat → Addr) (F H : Hp) : T → V → Prop
  | .lst _ ts, v => ∃ a vs, v = .ref a ∧ Rd H a (.lst vs) ∧ Views ca F ts vs ∧ fzs ts = true
  | .tup ts, v => ∃ a vs, v = .ref a ∧ F a = some (.tup vs) ∧ Views ca F ts vs ∧ fzs ts = true
  | .dic _ ks ts, v => ∃ a vs, v = .ref a ∧ DicAt H a ks vs ∧ Views ca F ts vs ∧ fzs ts = true
  | .obj _ c ns ts, v => ∃ a dx vs, v = .ref a ∧ H a = some (.ins (ca c) dx (ns.zip vs)) ∧ ns.length = vs.length ∧ Views ca F ts vs ∧ fzs ts = true
  | .non, v => v = .non
  | .bl b, v => v = .bl b
  | .int i, v => v = .int i
  | .str s, v => v = .str s
def CVs (ca : Nat → Addr) (F H : Hp) : List T → List V → Prop
  | [], vs => vs = []
  | t :: ts, vs => ∃ v r, vs = v :: r ∧ CV ca F H t v ∧ CVs ca F H ts r
theorem Own.cv {ca : Nat → Addr} {F H : Hp} {t : T} {v : V} {as : List Addr} (o : Own ca F H t v as) (hs : t.sh = true) (e : Same F H) : CV ca F H t v := by
  cases t with
  | lst b ts =>
    have hs : fzs ts = true := hs
    cases b with
    | true =>
      simp only [Own] at o
      obtain ⟨a, vs, r, e1, _, s, x⟩ := o
      exact ⟨a, vs, e1, .inl s, (Owns.of_fzs hs x).2, hs⟩
    | false =>
      simp only [Own, View] at o
      obtain ⟨_, _, a, vs, e1, s, x⟩ := o
      exact ⟨a, vs, e1, Same.rd e s, x, hs⟩
  | tup ts =>
    have hs : fzs ts = true := hs
    simp only [Own, View] at o
    obtain ⟨_, _, a, vs, e1, s, x⟩ := o
    exact ⟨a, vs, e1, s, x, hs⟩
  | dic b ks ts =>
    have hs : fzs ts = true := hs
    cases b with
    | true =>
      simp only [Own] at o
      obtain ⟨a, vs, r, e1, _, s, x⟩ := o
      exact ⟨a, vs, e1, s, (Owns.of_fzs hs x).2, hs⟩
    | false =>
      simp only [Own, View] at o
      obtain ⟨_, _, a, vs, e1, s, x⟩ := o
      exact ⟨a, vs, e1, s.mono (e a), x, hs⟩
  | obj b c ns ts =>
    have hs : fzs ts = true := hs
    cases b with
    | true =>
      simp only [Own] at o
      obtain ⟨a, dx, vs, r, e1, _, s, _, l, x⟩ := o
      exact ⟨a, dx, vs, e1, s, l, (Owns.of_fzs hs x).2, hs⟩
    | false =>
      simp only [Own, View] at o
      obtain ⟨_, _, a, dx, vs, e1, s, l, x⟩ := o
      exact ⟨a, dx, vs, e1, e _ _ s, l, x, hs⟩
  | non => simp only [Own] at o; exact o.2
  | bl _ => simp only [Own] at o; exact o.2
  | int _ => simp only [Own] at o; exact o.2
  | str _ => simp only [Own] at o; exact o.2
theorem CV.view {ca : Nat → Addr} {F H : Hp} {t : T} {v : V} (o : CV ca F H t v) (e : Same F H) : View ca H t v := by
  cases t with
  | lst b ts => obtain ⟨a, vs, e1, s, x, _⟩ := o; simp only [View]; exact ⟨a, vs, e1, s, Views.mono e _ _ x⟩
  | tup ts => obtain ⟨a, vs, e1, s, x, _⟩ := o; simp only [View]; exact ⟨a, vs, e1, e _ _ s, Views.mono e _ _ x⟩
  | dic b ks ts => obtain ⟨a, vs, e1, s, x, _⟩ := o; simp only [View]; exact ⟨a, vs, e1, s, Views.mono e _ _ x⟩
  | obj b c ns ts => obtain ⟨a, dx, vs, e1, s, l, x, _⟩ := o; simp only [View]; exact ⟨a, dx, vs, e1, s, l, Views.mono e _ _ x⟩
  | non => simp only [View]; exact o
  | bl _ => simp only [View]; exact o
  | int _ => simp only [View]; exact o
  | str _ => simp only [View]; exact o
theorem dr_cv {R F H : Hp} {σ : St} {η : Env} {tmp : List (V × T)} {x : Opd} {t : T} {v : V} (o : G.Ok R F H σ η tmp) (m : ∀ t, x = .v t → (v, t) ∈ tmp) (pl : ∀ i p, x = .pl i p → PlO G.ca H σ η i p v) (h : dr η x = some t) : CV G.ca F H t v := by
  cases x with
  | v u =>
    simp only [dr] at h
    split at h
    · obtain rfl := Option.some.inj h
      obtain ⟨as, w⟩ := Ok.mem o (m u rfl)
      exact w.cv (by assumption) o.same
    · cases h
  | pl i p =>
    simp only [dr] at h
    split at h
    · rename_i n hn
      split at h
      · obtain rfl := Option.some.inj h
        obtain ⟨u, an, ar, at', hp, _, w, _⟩ := Ok.focus o hn
        obtain rfl := hp.inj (pl i p rfl)
        exact w.cv (by assumption) o.same
      · cases h
    · cases h
theorem drs_cv {R F H : Hp} {σ : St} {η : Env} {tmp : List (V × T)} : ∀ {os : List Opd} {ts : List T} {vs : List V}, G.Ok R F H σ η tmp → (∀ x ∈ tms os vs, x ∈ tmp) → Pls G H σ η os vs → drs η os = some ts → CVs G.ca F H ts vs
  | [], ts, vs, _, _, p, h => by
    simp only [drs] at h
    obtain rfl := Option.some.inj h
    exact p
  | x :: os, ts, vs, o, m, p, h => by
    simp only [drs] at h
    split at h
    · rename_i t us h1 h2
      obtain rfl := Option.some.inj h
      cases x with
      | v u =>
        simp only [Pls] at p
        obtain ⟨v, r, rfl, p⟩ := p
        simp only [tms] at m
        refine ⟨v, r, rfl, dr_cv o (fun t e => ?_) (fun _ _ e => by cases e) h1, drs_cv o (fun y hy => m y (by simp [hy])) p h2⟩
        cases e
        exact m _ (by simp)
      | pl i q =>
        simp only [Pls] at p
        obtain ⟨v, r, rfl, p1, p⟩ := p
        simp only [tms] at m
        refine ⟨v, r, rfl, dr_cv o (fun _ e => by cases e) (fun _ _ e => by cases e; exact p1) h1, drs_cv o m p h2⟩
    · cases h
/-! ### answers -/
/-- an answer r may be handed back: it is frozen already, or a new list or tuple of frozen things -/
structure Ret (ca : Nat → Addr) (F H : Hp) (r : T) (Q : VK) : Prop where
  old : ∀ H' v, Same H H' → View ca F r v → r.fz = true → Q v H'
  lst : ∀ H' ts vs p, Same H H' → r = .lst true ts → H' p = none → Views ca F ts vs → fzs ts = true → Q (.ref p) (upd H' p (.lst vs))
  tup : ∀ H' ts vs p, Same H H' → r = .tup ts → H' p = none → Views ca F ts vs → fzs ts = true → Q (.ref p) (upd H' p (.tup vs))
theorem Ok.ret {R F H : Hp} {σ : St} {η : Env} {tmp : List (V × T)} {r : T} {Q : VK} (o : G.Ok R F H σ η tmp) (q : ∀ F' H' v, Same F F' → G.Ok R F' H' σ η ((v, r) :: tmp) → Q v H') : Ret G.ca F H r Q := by
  have mv : ∀ H', Same H H' → G.Ok R F H' σ η tmp := fun H' s => Ok.more o (Same.refl F) (o.same.trans s) s fun _ _ _ n => n
  refine ⟨fun H' v s hv hf => q F H' v (Same.refl F) ((mv H' s).push hv hf), fun H' ts vs p s e hp hv hf => ?_, fun H' ts vs p s e hp hv hf => ?_⟩
  · subst e
    exact q F _ _ (Same.refl F) ((mv H' s).newLst hp hv hf)
  · subst e
    obtain ⟨sf, o'⟩ := (mv H' s).newTup hp hv hf
    exact q _ _ _ sf o'
end
end TV
/-! operations -/
namespace TV
open PySem L2
section
variable {ca : Nat → Addr} {X : Cx} {pins : List (Addr × Obj)} {σ : St} {F H : Hp} {s : Shared}
mutual
theorem view_reads (I : Inv X pins σ H s) : ∀ (t : T) (v : V) (u : Value), View ca H t v → t.toD.plain = true → RelV v u → ∃ as, Reads s.heap u t.toD as
  | .non, v, u, h, _, r => by
    simp only [View] at h
    subst h
    cases r
    exact ⟨_, Reads.none⟩
  | .bl b, v, u, h, _, r => by
    simp only [View] at h
    subst h
    cases r
    exact ⟨_, Reads.bool b⟩
  | .int i, v, u, h, _, r => by
    simp only [View] at h
    subst h
    obtain ⟨t, rfl⟩ := r
    exact ⟨_, Reads.int i t⟩
  | .str x, v, u, h, _, r => by
    simp only [View] at h
    subst h
    obtain ⟨t, rfl⟩ := r
    exact ⟨_, Reads.str x t⟩
  | .tup ts, v, u, h, p, r => by
    simp only [View] at h
    obtain ⟨a, vs, rfl, ha, hv⟩ := h
    cases r
    obtain ⟨_, its, rv, o, e, c, n, d⟩ := I.hok a _ ha
    simp only [T.toD, PyData.plain] at p
    obtain ⟨as, q⟩ := views_reads I ts vs its hv p rv
    exact ⟨as, Reads.tuple e c d q⟩
  | .lst _ ts, v, u, h, p, r => by
    simp only [View] at h
    obtain ⟨a, vs, rfl, ha, hv⟩ := h
    cases r
    obtain ⟨_, its, n, rv, e⟩ := ha.ok I.hok
    simp only [T.toD, PyData.plain] at p
    obtain ⟨as, q⟩ := views_reads I ts vs its hv p rv
    exact ⟨_, Reads.list e rfl rfl q⟩
  | .dic _ _ _, _, _, _, p, _ => by simp [T.toD, PyData.plain] at p
  | .obj _ _ _ _, _, _, _, p, _ => by simp [T.toD, PyData.plain] at p
theorem views_reads (I : Inv X pins σ H s) : ∀ (ts : List T) (vs : List V) (us : List Value), Views ca H ts vs → PyData.plainAll (toDs ts) = true → Vals vs us → ∃ as, ReadsAll s.heap us (toDs ts) as
  | [], vs, us, h, _, r => by
    simp only [Views] at h
    subst h
    cases r
    exact ⟨_, ReadsAll.nil⟩
  | t :: ts, vs, us, h, p, r => by
    simp only [Views] at h
    obtain ⟨v, w, rfl, h1, h2⟩ := h
    cases r with
    | cons r1 r2 =>
      simp only [toDs, PyData.plainAll, Bool.and_eq_true] at p
      obtain ⟨as, q1⟩ := view_reads I t v _ h1 p.1 r1
      obtain ⟨bs, q2⟩ := views_reads I ts w _ h2 p.2 r2
      exact ⟨_, ReadsAll.cons q1 q2⟩
end
theorem CV.reads (I : Inv X pins σ H s) (e : Same F H) {t : T} {v : V} {u : Value} (c : CV ca F H t v) (d : t.data = true) (r : RelV v u) : ∃ as, Reads s.heap u t.toD as := by
  simp only [T.data, Bool.and_eq_true] at d
  exact view_reads I t v u (c.view e) d.1 r
theorem data_plain {t : T} (d : t.data = true) : t.toD.plain = true := by simp only [T.data, Bool.and_eq_true] at d; exact d.1
theorem data_depth {t : T} (d : t.data = true) : t.toD.depth ≤ 60 := by simp only [T.data, Bool.and_eq_true, decide_eq_true_eq] at d; exact d.2
/-- the reading of an operation whose answer is g of the trees -/
def rF (ca : Nat → Addr) (g : List T → Option T) : List V → Hp → VK → Prop := fun vs H Q => ∃ F ts r, Same F H ∧ CVs ca F H ts vs ∧ g ts = some r ∧ Ret ca F H r Q
def r2F (ca : Nat → Addr) (g : T → T → Option T) : R2 := fun x y H Q => ∃ F a b r, Same F H ∧ CV ca F H a x ∧ CV ca F H b y ∧ g a b = some r ∧ Ret ca F H r Q
def r1F (ca : Nat → Addr) (g : T → Option T) : V → Hp → VK → Prop := fun x H Q => ∃ F a r, Same F H ∧ CV ca F H a x ∧ g a = some r ∧ Ret ca F H r Q
theorem Ret.bl {b : Bool} {Q : VK} (q : Ret ca F H (.bl b) Q) : Q (.bl b) H := q.old H _ (Same.refl H) (by simp [View]) rfl
theorem Ret.int {i : Int} {Q : VK} (q : Ret ca F H (.int i) Q) : Q (.int i) H := q.old H _ (Same.refl H) (by simp [View]) rfl
theorem Ret.non {Q : VK} (q : Ret ca F H .non Q) : Q .non H := q.old H _ (Same.refl H) (by simp [View]) rfl
/-! dict keys -/
theorem keyT_inj {a b : Key} (h : (keyT a).beq (keyT b) = true) : a = b := by
  have := T.beq_eq _ _ h
  cases a <;> cases b <;> simp_all [keyT]
theorem keyTs_inj : ∀ {a b : List Key}, a.map keyT = b.map keyT → a = b
  | [], [], _ => rfl
  | x :: a, y :: b, h => by
    simp only [List.map_cons, List.cons.injEq] at h
    rw [keyT_inj (a := x) (b := y) (by rw [h.1]; exact T.beq_refl _), keyTs_inj h.2]
  | [], _ :: _, h => by simp at h
  | _ :: _, [], h => by simp at h
theorem kpos_zip {κ : Type} [DecidableEq κ] {f : κ → T} (hf : ∀ a b, f a = f b → a = b) : ∀ (kk : List κ) (vs : List V) (k : κ), kk.length = vs.length → valV (kk.zip vs) k = (kpos (kk.map f) (f k)).bind (vs[·]?)
  | [], [], _, _ => rfl
  | x :: kk, v :: vs, k, h => by
    simp only [List.map_cons, kpos, List.zip_cons_cons]
    by_cases e : x = k
    · subst e
      rw [valV_pos (by rfl), if_pos (T.beq_refl _)]
      rfl
    · rw [valV_neg e, if_neg (fun z => e (hf _ _ (T.beq_eq _ _ z))), kpos_zip hf kk vs k (by simpa using h)]
      cases kpos (kk.map f) (f k) with
      | none => rfl
      | some j => simp
  | [], _ :: _, _, h => by simp at h
  | _ :: _, [], _, h => by simp at h
theorem keyS_some {t : T} {k : Key} (h : keyS t = some k) : t = keyT k := by
  cases t <;> simp only [keyS] at h <;> first | (cases h; rfl) | cases h
theorem keys_of : ∀ {ts : List T}, (ts.all fun t => (keyS t).isSome) = true → ∃ l : List Key, ts = l.map keyT
  | [], _ => ⟨[], rfl⟩
  | t :: ts, h => by
    simp only [List.all_cons, Bool.and_eq_true] at h
    obtain ⟨k, hk⟩ := Option.isSome_iff_exists.mp h.1
    obtain ⟨l, hl⟩ := keys_of h.2
    exact ⟨k :: l, by rw [keyS_some hk, hl]; rfl⟩
theorem keyOk_of {k : T} (h : keyOk k = true) : (∃ i : Key, k = keyT i ∧ isTup k = false) ∨ ∃ l : List Key, k = .tup (l.map keyT) ∧ isTup k = true := by
  cases k with
  | int i => exact .inl ⟨.inl i, rfl, rfl⟩
  | str s => exact .inl ⟨.inr s, rfl, rfl⟩
  | tup ts =>
    obtain ⟨l, hl⟩ := keys_of (show (ts.all fun t => (keyS t).isSome) = true from h)
    exact .inr ⟨l, by rw [hl], rfl⟩
  | _ => simp [keyOk] at h
theorem cv_key {k : Key} {y : V} (c : CV ca F H (keyT k) y) : y = kV k := by
  cases k with
  | inl i => exact c
  | inr s => exact c
theorem views_keys : ∀ {l : List Key} {vs : List V}, Views ca F (l.map keyT) vs → vs = l.map kV
  | [], vs, h => by simpa only [List.map_nil, Views] using h
  | k :: l, vs, h => by
    simp only [List.map_cons, Views] at h
    obtain ⟨v, r, rfl, h1, h2⟩ := h
    rw [views_keys h2]
    cases k with
    | inl i => simp only [keyT, View] at h1; subst h1; rfl
    | inr i => simp only [keyT, View] at h1; subst h1; rfl
theorem cv_tkey {l : List Key} {y : V} (e : Same F H) (c : CV ca F H (.tup (l.map keyT)) y) : ∃ b, y = .ref b ∧ H b = some (.tup (l.map kV)) := by
  obtain ⟨a, vs, rfl, h, hv, _⟩ := c
  rw [views_keys hv] at h
  exact ⟨a, rfl, e _ _ h⟩
theorem tupkey_inj (a b : List Key) (h : T.tup (a.map keyT) = T.tup (b.map keyT)) : a = b := by
  injection h with h
  exact keyTs_inj h
theorem isTup_key (k : Key) : isTup (keyT k) = false := by cases k <;> rfl
/-- what a dict that isn't empty holds at a key -/
theorem dic_get {a : Addr} {ks : List T} {vs : List V} {k : T} {y : V} (d : DicAt H a ks vs) (hk : keyFit ks k = true) (hne : ks ≠ []) (sF : Same F H) (c : CV ca F H k y) : DGet H a y ((kpos ks k).bind (vs[·]?)) := by
  simp only [keyFit, Bool.and_eq_true] at hk
  rcases d with ⟨kk, e, l, x⟩ | ⟨kk, e, l, x⟩
  · rcases keyOk_of hk.1 with ⟨i, rfl, _⟩ | ⟨i, rfl, ht⟩
    · rw [cv_key c, e, ← kpos_zip (f := keyT) (fun a b h => keyT_inj (by rw [h]; exact T.beq_refl _)) kk vs i l]
      exact DGet.k x
    · exfalso
      cases kk with
      | nil => exact hne (by rw [e]; rfl)
      | cons z kk =>
        have := hk.2
        rw [e] at this
        simp [isTup_key, ht] at this
  · rcases keyOk_of hk.1 with ⟨i, rfl, hf⟩ | ⟨i, rfl, ht⟩
    · exfalso
      cases kk with
      | nil => exact hne (by rw [e]; rfl)
      | cons z kk =>
        have := hk.2
        rw [e, hf] at this
        simp [isTup] at this
    · obtain ⟨b, rfl, hb⟩ := cv_tkey sF c
      rw [e, ← kpos_zip (f := fun l => T.tup (l.map keyT)) tupkey_inj kk vs i l]
      exact DGet.t x hb
theorem same_back {a : Addr} {o u : HO} (h : H a = some o) : upd (upd H a u) a o = H := by
  rw [upd_upd]
  funext b
  by_cases e : b = a
  · subst e; rw [upd_same, h]
  · rw [upd_ne e]
theorem empty_raw {P : Program} {w : World} {h : Heap} {a : Addr} (x : ObjOk P w H h a (.dK []) ∨ ObjOk P w H h a (.dT [])) : (a == sysModules) = false ∧ ∃ o ep, h.get? a = some o ∧ o.ExactDict ∧ o.data = .dict #[] ep := by
  rcases x with ⟨_, hd, vs, kv, o, es, ep, e, ex, hda, _, pr, _⟩ | ⟨_, hd, xs, kt, o, es, ep, e, ex, hda, he, _⟩
  · cases kv
    have : es.toList = [] := by cases h : es.toList with
      | nil => rfl
      | cons y r => rw [h] at pr; cases pr
    have e2 : es = #[] := by simpa using this
    subst e2
    exact ⟨hd, o, ep, e, ex, hda⟩
  · cases kt
    have e2 : es = #[] := by simpa using he
    subst e2
    exact ⟨hd, o, ep, e, ex, hda⟩
theorem empty_both {P : Program} {w : World} {H' : Hp} {h : Heap} {a : Addr} (x : ObjOk P w H h a (.dK []) ∨ ObjOk P w H h a (.dT [])) : ObjOk P w H' h a (.dK []) ∧ ObjOk P w H' h a (.dT []) := by
  obtain ⟨hd, o, ep, e, ex, hda⟩ := empty_raw x
  refine ⟨⟨Nat.zero_le _, hd, [], .nil, o, #[], ep, e, ex, hda, ?_, ?_, List.nodup_nil⟩, ⟨Nat.zero_le _, hd, [], .nil, o, #[], ep, e, ex, hda, rfl, List.nodup_nil⟩⟩
  · intro x hx; simp at hx
  · exact .nil
theorem conv0 {a : Addr} {o : HO} (I : Inv X pins σ H s) (h : H a = some (.dK []) ∨ H a = some (.dT [])) (ho : o = .dK [] ∨ o = .dT []) : Inv X pins σ (upd H a o) s := by
  have x : ObjOk X.prog X.w H s.heap a (.dK []) ∨ ObjOk X.prog X.w H s.heap a (.dT []) := h.imp (I.hok a _) (I.hok a _)
  obtain ⟨_, o', ep, e, _, _⟩ := empty_raw x
  refine I.write (t' := s.toks) (h' := s.heap) (x := a) (e := a) (by rcases h with h | h <;> rw [h] <;> trivial) (.inl rfl) (fun b u _ z => z) ⟨_, e⟩ ?_
  rcases ho with rfl | rfl
  · exact (empty_both x).1
  · exact (empty_both x).2
/-- a dict, empty or not, read at a fitting key -/
theorem dic_any {a : Addr} {ks : List T} {vs : List V} {k : T} {y : V} (d : DicAt H a ks vs) (hk : keyFit ks k = true) (sF : Same F H) (c : CV ca F H k y) :
    ∃ H2, DGet H2 a y ((kpos ks k).bind (vs[·]?)) ∧ (∀ s, Inv X pins σ H s → Inv X pins σ H2 s) ∧ (∀ s, Inv X pins σ H2 s → Inv X pins σ H s) := by
  cases ks with
  | cons z ks => exact ⟨H, dic_get d hk (by simp) sF c, fun _ I => I, fun _ I => I⟩
  | nil =>
    have he : H a = some (.dK []) ∨ H a = some (.dT []) := by
      rcases d with ⟨kk, e, l, x⟩ | ⟨kk, e, l, x⟩
      · cases kk with
        | nil => exact .inl x
        | cons _ _ => simp at e
      · cases kk with
        | nil => exact .inr x
        | cons _ _ => simp at e
    have hv : vs = [] := by
      rcases d with ⟨kk, e, l, x⟩ | ⟨kk, e, l, x⟩
      · cases kk with
        | nil => cases vs with
          | nil => rfl
          | cons _ _ => simp at l
        | cons _ _ => simp at e
      · cases kk with
        | nil => cases vs with
          | nil => rfl
          | cons _ _ => simp at l
        | cons _ _ => simp at e
    subst hv
    obtain ⟨o0, h0, hi⟩ : ∃ o0, H a = some o0 ∧ (o0 = .dK [] ∨ o0 = .dT []) := by
      rcases he with he | he
      · exact ⟨_, he, .inl rfl⟩
      · exact ⟨_, he, .inr rfl⟩
    simp only [keyFit, Bool.and_eq_true] at hk
    rcases keyOk_of hk.1 with ⟨i, rfl, _⟩ | ⟨l, rfl, _⟩
    · refine ⟨upd H a (.dK []), ?_, fun s I => conv0 I he (.inl rfl), fun s I => ?_⟩
      · rw [cv_key c]; exact DGet.k upd_same
      · rw [← same_back (u := .dK []) h0]
        exact conv0 I (.inl upd_same) hi
    · obtain ⟨b, rfl, hb⟩ := cv_tkey sF c
      refine ⟨upd H a (.dT []), ?_, fun s I => conv0 I he (.inr rfl), fun s I => ?_⟩
      · exact DGet.t (k := l) upd_same (by
          rw [upd_ne fun z => ?_]
          · exact hb
          · rw [z, h0] at hb
            rcases hi with rfl | rfl <;> cases hb)
      · rw [← same_back (u := .dT []) h0]
        exact conv0 I (.inr upd_same) hi
theorem sizeL_le {n : Nat} (h : n ≤ sizeL) : n ≤ sizeLine := by
  have : sizeL ≤ sizeLine := by rw [sizeLine_eq]; decide
  omega
theorem sizeL_lt {n : Nat} (h : n < sizeL) : n < sizeLine := by
  have : sizeL < sizeLine := by rw [sizeLine_eq]; decide
  omega
theorem Inv.lstR {l : Addr} {xs : List V} (I : Inv X pins σ H s) (h : Rd H l (.lst xs)) : xs.length ≤ sizeLine ∧ ∃ (its : List Value) (n : Nat), Vals xs its ∧ xs.length = its.length ∧ s.heap.get? l = some { cls := .type "list", data := .seq its.toArray n } := by
  obtain ⟨z, its, n, r, e⟩ := h.ok I.hok
  exact ⟨z, its, n, r, r.length, e⟩
theorem Views.take : ∀ {ts : List T} {vs : List V} (n : Nat), Views ca F ts vs → Views ca F (ts.take n) (vs.take n)
  | _, _, 0, _ => by simp [Views]
  | [], vs, n + 1, h => by simp only [Views] at h; subst h; simp [Views]
  | t :: ts, vs, n + 1, h => by
    simp only [Views] at h
    obtain ⟨v, r, rfl, h1, h2⟩ := h
    simp only [List.take_succ_cons, Views]
    exact ⟨v, _, rfl, h1, Views.take n h2⟩
theorem Views.drop : ∀ {ts : List T} {vs : List V} (n : Nat), Views ca F ts vs → Views ca F (ts.drop n) (vs.drop n)
  | _, _, 0, h => h
  | [], vs, n + 1, h => by simp only [Views] at h; subst h; simp [Views]
  | t :: ts, vs, n + 1, h => by
    simp only [Views] at h
    obtain ⟨v, r, rfl, h1, h2⟩ := h
    simp only [List.drop_succ_cons]
    exact Views.drop n h2
theorem Views.rep {ts : List T} {vs : List V} (h : Views ca F ts vs) : ∀ n : Nat, Views ca F (List.replicate n ts).flatten (List.replicate n vs).flatten
  | 0 => by simp [Views]
  | n + 1 => by
    rw [List.replicate_succ, List.replicate_succ, List.flatten_cons, List.flatten_cons]
    exact h.append (Views.rep h n)
theorem Views.reverse : ∀ {ts : List T} {vs : List V}, Views ca F ts vs → Views ca F ts.reverse vs.reverse
  | [], vs, h => by simp only [Views] at h; subst h; simp [Views]
  | t :: ts, vs, h => by
    simp only [Views] at h
    obtain ⟨v, r, rfl, h1, h2⟩ := h
    rw [List.reverse_cons, List.reverse_cons]
    exact (Views.reverse h2).append (by simp only [Views]; exact ⟨v, [], rfl, h1, rfl⟩)
theorem fzs_sub {a b : List T} (h : fzs a = true) (k : ∀ t ∈ b, t ∈ a) : fzs b = true := fzs_of fun t m => fzs_mem h (k t m)
theorem fzs_rep {ts : List T} (h : fzs ts = true) (n : Nat) : fzs (List.replicate n ts).flatten = true := fzs_sub h fun t m => by
  simp only [List.mem_flatten, List.mem_replicate] at m
  obtain ⟨l, ⟨_, rfl⟩, m⟩ := m
  exact m
open PySem.Spec PyProof.Rows PySem.SeqAt PySem.MeetsSeq PySem.MeetsSeq2 PySem.MeetsSeq3 in
theorem op_bin (op : Operator) : OpR X (binaryOp op) (r2F ca (binT op)) := by
  intro pins s σ H x y v u Q I rx ry ⟨F, a, b, r, e, cx, cy, hg, q⟩
  unfold binT at hg
  split at hg
  · cases hg; cases cx; cases cy
    exact op_add pins s σ H _ _ v u Q I rx ry ⟨_, _, rfl, rfl, q.int⟩
  · cases hg; cases cx; cases cy
    exact op_sub pins s σ H _ _ v u Q I rx ry ⟨_, _, rfl, rfl, q.int⟩
  · split at hg
    · cases hg; cases cx; cases cy
      exact op_mul pins s σ H _ _ v u Q I rx ry ⟨_, _, rfl, rfl, by rename_i h; unfold CMul; omega, q.int⟩
    · cases hg
  · split at hg
    · cases hg; cases cx; cases cy
      exact op_fdiv pins s σ H _ _ v u Q I rx ry ⟨_, _, rfl, rfl, by rename_i h; unfold CDiv; omega, q.int⟩
    · cases hg
  · split at hg
    · cases hg; cases cx; cases cy
      exact op_mod pins s σ H _ _ v u Q I rx ry ⟨_, _, rfl, rfl, by assumption, q.int⟩
    · cases hg
  · cases hg; cases cx; cases cy
    exact op_and pins s σ H _ _ v u Q I rx ry ⟨_, _, rfl, rfl, q.int⟩
  · cases hg; cases cx; cases cy
    exact op_or pins s σ H _ _ v u Q I rx ry ⟨_, _, rfl, rfl, q.int⟩
  · cases hg; cases cx; cases cy
    exact op_xor pins s σ H _ _ v u Q I rx ry ⟨_, _, rfl, rfl, q.int⟩
  · split at hg
    · cases hg; cases cx; cases cy
      exact op_shl pins s σ H _ _ v u Q I rx ry ⟨_, _, rfl, rfl, by rename_i h; unfold CPow; omega, q.int⟩
    · cases hg
  · split at hg
    · cases hg; cases cx; cases cy
      exact op_shr pins s σ H _ _ v u Q I rx ry ⟨_, _, rfl, rfl, by assumption, q.int⟩
    · cases hg
  · split at hg
    · cases hg; cases cx; cases cy
      exact op_pow pins s σ H _ _ v u Q I rx ry ⟨_, _, rfl, rfl, by rename_i h; unfold CPow; omega, q.int⟩
    · cases hg
  · rename_i xs _ ys
    split at hg
    · rename_i hz
      cases hg
      obtain ⟨l, vs, rfl, hl, vx, fx⟩ := cx
      obtain ⟨m, us, rfl, hm, vy, fy⟩ := cy
      cases rx
      cases ry
      obtain ⟨z, its, n, r, hle, e1⟩ := Inv.lstR I hl
      obtain ⟨z2, its2, n2, r', hl2, e2⟩ := Inv.lstR I hm
      have hlen : its.length + its2.length ≤ sizeLine := by
        rw [← hle, ← hl2, ← vx.length, ← vy.length]; exact sizeL_le hz
      refine PySem.P.add_list e1 e2 ?_ (by rw [List.size_toArray, List.size_toArray]; exact hlen)
      have ea : its.toArray ++ its2.toArray = (its ++ its2).toArray := by simp
      rw [ea]
      exact ⟨.ref _, _, I.lnew (t' := s.toks) (r.append r') (by rw [List.length_append, hle, hl2]; exact hlen), rfl, q.lst H _ _ _ (Same.refl H) rfl I.fresh (vx.append vy) (by rw [fzs_append, fx, fy]; rfl)⟩
    · cases hg
  · rename_i xs ys
    split at hg
    · rename_i hz
      cases hg
      obtain ⟨l, vs, rfl, hl, vx, fx⟩ := cx
      obtain ⟨m, us, rfl, hm, vy, fy⟩ := cy
      refine op_catA pins s σ H _ _ v u Q I rx ry ⟨l, m, vs, us, rfl, rfl, .inl (.inl (e _ _ hl)), .inl (.inl (e _ _ hm)), by rw [← vx.length, ← vy.length]; exact sizeL_le hz, fun h => ?_, fun _ h => ?_, fun _ _ p hp => ?_⟩
      · subst h
        have hx : xs = [] := List.eq_nil_of_length_eq_zero vx.length
        subst hx
        exact q.old H _ (Same.refl H) (by simp only [View]; exact ⟨m, us, rfl, hm, vy⟩) (by simpa [T.fz] using fy)
      · subst h
        have hx : ys = [] := List.eq_nil_of_length_eq_zero vy.length
        subst hx
        rw [List.append_nil] at q
        exact q.old H _ (Same.refl H) (by simp only [View]; exact ⟨l, vs, rfl, hl, vx⟩) (by simpa [T.fz] using fx)
      · exact q.tup H _ _ p (Same.refl H) rfl hp (vx.append vy) (by rw [fzs_append, fx, fy]; rfl)
    · cases hg
  · rename_i xs k
    split at hg
    · rename_i hz
      cases hg
      obtain ⟨l, vs, rfl, hl, vx, fx⟩ := cx
      obtain rfl := cy
      cases rx
      obtain ⟨t, rfl⟩ := ry
      obtain ⟨z, its, n, r, hle, e1⟩ := Inv.lstR I hl
      have hz2 : vs.length * k.toNat ≤ sizeLine := by rw [← vx.length]; exact sizeL_le hz.2.2
      have hlen : its.toArray.size * k.toNat ≤ sizeLine := by rw [List.size_toArray, ← hle]; exact hz2
      have hcap : ¬ its.toArray.size * k.toNat > (2 ^ 63 - 1) / 8 := by
        have : (sizeLine : Nat) ≤ (2 ^ 63 - 1) / 8 := by decide
        omega
      have hk2 : k < 2 ^ 63 := by have := hz.2.1; unfold sizeL at this; omega
      have hfit : ¬ (!PySem.Builtin.List.listFitsIndex k) = true := by
        rw [fitsIndex_both (by omega) hk2]
        exact Bool.false_ne_true
      have hlong : ¬ PySem.Builtin.List.listTooLong (its.toArray.size * k.toNat) = true := by
        rw [notLongL hlen]
        exact Bool.false_ne_true
      have hnew : List.foldl (fun x1 x2 => x1 ++ x2) #[] (List.replicate (if its.toArray.isEmpty = true then 0 else k.toNat) its.toArray) = (List.replicate k.toNat its).flatten.toArray := by
        have f0 : ∀ m : Nat, List.foldl (fun x1 x2 => x1 ++ x2) #[] (List.replicate m its.toArray) = (List.replicate m its).flatten.toArray := fun m => by
          have := foldl_rep its m []
          rw [List.nil_append] at this
          exact this
        rw [f0]
        cases its with
        | nil => simp
        | cons a r' => rw [if_neg (by simp)]
      refine wpAny_binaryOp_repeat_ref (T := "list") (U := "int") (by decide) ⟨_, e1, rfl⟩ (fun s' => typeIs_int s' k t) noFill_list_mul PySem.F.fills_int_mul PySem.F.slot_int_rmul repeat_list PySem.F.slot_int_index.lookup
        (call_meets PySem.F.slot_int_rmul (typeIs_int s k t) PySem.F.entry_int_rmul (PySem.F.args_int_rmul_2 _ _) (int___rmul___int_list k t l its.toArray n)
          ⟨e1, rfl, ⟨_, e1, rfl⟩, call_meets PySem.F.slot_list_mul ⟨_, e1, rfl⟩ PySem.F.entry_list_mul (PySem.F.args_list_mul_2 _ _) (AutoListH.list___mul___list_int_3 l its.toArray n k t hfit hcap hlong) ⟨e1, ?_⟩⟩)
      rw [hnew]
      exact ⟨.ref _, _, I.lnew (t' := s.toks) (r.rep k.toNat) (by rw [PyProof.Rows.lm_len_rep_flat, Nat.mul_comm]; exact hz2), rfl, q.lst H _ _ _ (Same.refl H) rfl I.fresh (vx.rep _) (fzs_rep fx _)⟩
    · cases hg
  · cases hg
end
end TV
/-! operations: comparisons, built-in functions -/
namespace TV
open PySem L2
section
variable {ca : Nat → Addr} {X : Cx} {pins : List (Addr × Obj)} {σ : St} {F H : Hp} {s : Shared}
theorem op_un (op : UnaryOp) : UnR X (unaryOp op) (r1F ca (unT op)) := by
  intro pins s σ H x v Q I rx ⟨F, a, r, e, cx, hg, q⟩
  unfold unT at hg
  split at hg
  · cases hg; cases cx
    exact un_neg pins s σ H _ v Q I rx ⟨_, rfl, q.int⟩
  · cases hg
theorem ep_bl {b : Bool} {Q : VK} {s' : Shared} (I : Inv X pins σ H s') (q : Q (.bl b) H) : EP X pins σ Q (.bool b) s' := ⟨.bl b, H, I, rfl, q⟩
theorem kpos_lt : ∀ {ks : List T} {k : T} {j : Nat}, kpos ks k = some j → j < ks.length
  | [], _, _, h => by simp [kpos] at h
  | x :: r, k, j, h => by
    simp only [kpos] at h
    split at h
    · cases h; simp
    · cases e : kpos r k with
      | none => rw [e] at h; cases h
      | some i => rw [e] at h; cases h; have := kpos_lt e; simp; omega
theorem kpos_some {ks : List T} {vs : List V} {k : T} (h : ks.length = vs.length) : ((kpos ks k).bind (vs[·]?)).isSome = (kpos ks k).isSome := by
  cases e : kpos ks k with
  | none => rfl
  | some j =>
    have := kpos_lt e
    simp only [Option.bind_some, Option.isSome_some]
    rw [List.getElem?_eq_getElem (by omega)]
    rfl
theorem DicAt.len {a : Addr} {ks : List T} {vs : List V} (d : DicAt H a ks vs) : ks.length = vs.length := by
  rcases d with ⟨kk, rfl, l, _⟩ | ⟨kk, rfl, l, _⟩ <;> simpa using l
theorem op_cmp {k : Nat} (hr : Room k X.A) (op : CmpOp) : OpR X (compareOp op) (r2F ca (cmpT op)) := by
  intro pins s σ H x y v u Q I rx ry ⟨F, a, b, r, e, cx, cy, hg, q⟩
  have hu : X.A.units + 64 < cLine := hr.units
  have two : a.data = true → b.data = true → ∃ as bs, Reads s.heap v a.toD as ∧ Reads s.heap u b.toD bs ∧ X.A.units + min a.toD.depth b.toD.depth < cLine := fun da db => by
    obtain ⟨as, r1⟩ := cx.reads I e da rx
    obtain ⟨bs, r2⟩ := cy.reads I e db ry
    have := data_depth da
    exact ⟨as, bs, r1, r2, by omega⟩
  cases op with
  | Eq =>
    simp only [cmpT] at hg
    split at hg
    · rename_i h; cases hg
      rw [Bool.and_eq_true] at h
      obtain ⟨as, bs, r1, r2, hd⟩ := two h.1 h.2
      exact PySem.SeqAt.eq_plain r1 r2 (data_plain h.1) (data_plain h.2) hd (ep_bl I q.bl)
    · cases hg
  | NotEq =>
    simp only [cmpT] at hg
    split at hg
    · rename_i h; cases hg
      rw [Bool.and_eq_true] at h
      obtain ⟨as, bs, r1, r2, hd⟩ := two h.1 h.2
      exact PySem.SeqAt.ne_plain r1 r2 (data_plain h.1) (data_plain h.2) hd (ep_bl I q.bl)
    · cases hg
  | Lt =>
    simp only [cmpT] at hg
    split at hg
    · rename_i h; cases hg
      simp only [Bool.and_eq_true] at h
      obtain ⟨as, bs, r1, r2, hd⟩ := two h.1.1.1 h.1.1.2
      exact PySem.W.lt_data r1 r2 h.1.2 (fun z => by cases a <;> simp_all [T.toD, T.isNon]) hd (ep_bl I q.bl)
    · cases hg
  | Gt =>
    simp only [cmpT] at hg
    split at hg
    · rename_i h; cases hg
      simp only [Bool.and_eq_true] at h
      obtain ⟨as, bs, r1, r2, hd⟩ := two h.1.1.1 h.1.1.2
      exact PySem.W.gt_data r1 r2 h.1.2 (fun z => by cases a <;> simp_all [T.toD, T.isNon]) hd (ep_bl I q.bl)
    · cases hg
  | LtE =>
    simp only [cmpT] at hg
    split at hg
    · rename_i h; cases hg
      simp only [Bool.and_eq_true] at h
      obtain ⟨as, bs, r1, r2, hd⟩ := two h.1.1.1 h.1.1.2
      exact PySem.W.le_data r1 r2 h.1.2 (fun z => by cases a <;> simp_all [T.toD, T.isNon]) hd (ep_bl I q.bl)
    · cases hg
  | GtE =>
    simp only [cmpT] at hg
    split at hg
    · rename_i h; cases hg
      simp only [Bool.and_eq_true] at h
      obtain ⟨as, bs, r1, r2, hd⟩ := two h.1.1.1 h.1.1.2
      exact PySem.W.ge_data r1 r2 h.1.2 (fun z => by cases a <;> simp_all [T.toD, T.isNon]) hd (ep_bl I q.bl)
    · cases hg
  | Is =>
    simp only [cmpT] at hg
    split at hg
    · cases hg
      obtain rfl := cy
      refine op_isN pins s σ H x _ v u Q I rx ry ⟨rfl, ?_⟩
      have q := q.bl
      cases a <;> simp only [CV] at cx <;> (try obtain ⟨a, vs, rfl, _⟩ := cx) <;> (try obtain ⟨a, dx, vs, rfl, _⟩ := cx) <;> (try subst cx) <;> simpa [T.isNon] using q
    · cases hg
      obtain rfl := cy
      obtain rfl := cx
      exact op_isBl pins s σ H _ _ v u Q I rx ry ⟨_, _, rfl, rfl, q.bl⟩
    · cases hg
  | IsNot =>
    simp only [cmpT] at hg
    split at hg
    · cases hg
      obtain rfl := cy
      refine op_notN pins s σ H x _ v u Q I rx ry ⟨rfl, ?_⟩
      have q := q.bl
      cases a <;> simp only [CV] at cx <;> (try obtain ⟨a, vs, rfl, _⟩ := cx) <;> (try obtain ⟨a, dx, vs, rfl, _⟩ := cx) <;> (try subst cx) <;> simpa [T.isNon] using q
    · cases hg
      obtain rfl := cy
      obtain rfl := cx
      exact op_notBl pins s σ H _ _ v u Q I rx ry ⟨_, _, rfl, rfl, q.bl⟩
    · cases hg
  | In =>
    simp only [cmpT] at hg
    split at hg
    · rename_i ts
      split at hg
      · rename_i h; cases hg
        rw [Bool.and_eq_true] at h
        obtain ⟨as, bs, r1, r2, hd⟩ := two h.1 h.2
        have h2 := data_plain h.2
        have h3 := data_depth h.2
        simp only [T.toD, PyData.plain] at h2 r2
        simp only [T.toD, PyData.depth] at h3
        have q := q.bl
        refine PySem.SeqAt.in_list_data r2 r1 h2 (data_plain h.1) (by have := data_depth h.1; omega) (ep_bl I ?_)
        rw [any_toDs]; exact q
      · cases hg
    · rename_i ts
      split at hg
      · rename_i h; cases hg
        rw [Bool.and_eq_true] at h
        obtain ⟨as, bs, r1, r2, hd⟩ := two h.1 h.2
        have h2 := data_plain h.2
        have h3 := data_depth h.2
        simp only [T.toD, PyData.plain] at h2 r2
        simp only [T.toD, PyData.depth] at h3
        have q := q.bl
        refine PySem.SeqAt.in_tuple_data r2 r1 h2 (data_plain h.1) (by have := data_depth h.1; omega) (ep_bl I ?_)
        rw [any_toDs]; exact q
      · cases hg
    · rename_i ks ts
      split at hg
      · rename_i h; cases hg
        obtain ⟨l, vs, rfl, hd, hv, hf⟩ := cy
        cases ry
        obtain ⟨H2, g, i1, i2⟩ := dic_any hd h e cx
        refine d_in (by omega) (i1 s I) g rx fun s' I' => ep_bl (i2 s' I') ?_
        have q := q.bl
        rw [kpos_some (hd.len)]
        exact q
      · cases hg
    · cases hg
  | NotIn =>
    simp only [cmpT] at hg
    split at hg
    · rename_i ts
      split at hg
      · rename_i h; cases hg
        rw [Bool.and_eq_true] at h
        obtain ⟨as, bs, r1, r2, hd⟩ := two h.1 h.2
        have h2 := data_plain h.2
        have h3 := data_depth h.2
        simp only [T.toD, PyData.plain] at h2 r2
        simp only [T.toD, PyData.depth] at h3
        have q := q.bl
        refine PySem.SeqAt.notIn_list_data r2 r1 h2 (data_plain h.1) (by have := data_depth h.1; omega) (ep_bl I ?_)
        rw [any_toDs]; exact q
      · cases hg
    · rename_i ts
      split at hg
      · rename_i h; cases hg
        rw [Bool.and_eq_true] at h
        obtain ⟨as, bs, r1, r2, hd⟩ := two h.1 h.2
        have h2 := data_plain h.2
        have h3 := data_depth h.2
        simp only [T.toD, PyData.plain] at h2 r2
        simp only [T.toD, PyData.depth] at h3
        have q := q.bl
        refine PySem.SeqAt.notIn_tuple_data r2 r1 h2 (data_plain h.1) (by have := data_depth h.1; omega) (ep_bl I ?_)
        rw [any_toDs]; exact q
      · cases hg
    · rename_i ks ts
      split at hg
      · rename_i h; cases hg
        obtain ⟨l, vs, rfl, hd, hv, hf⟩ := cy
        cases ry
        obtain ⟨H2, g, i1, i2⟩ := dic_any hd h e cx
        refine d_notIn (by omega) (i1 s I) g rx fun s' I' => ep_bl (i2 s' I') ?_
        have q := q.bl
        rw [kpos_some (hd.len)]
        exact q
      · cases hg
    · cases hg
where
  any_toDs {a : T} : ∀ ts : List T, ((toDs ts).any fun y => PyData.eqv y a.toD) = ts.any fun y => eqT y a
    | [] => rfl
    | t :: ts => by simp only [toDs, List.any_cons, any_toDs ts] <;> rfl
end
end TV
/-! sorted of a tuple, at the library's level -/
namespace PySem.W
open PySem PyProof.Rows
section
variable {prog : Program} {w : World} {A : Around} {E : Value → Shared → Prop} {s : Shared} {β : Type} {R : Value → β → Prop} {enc : β → PyData} {vs : List Value} {bs : List β}
theorem collect_tupleT {l : Addr} {vs : List Value} {Q : List Value → Shared → Prop} (hl : s.heap.IsTuple l vs.toArray)
    (h : Q vs { s with heap := (s.heap.push (seqObj "list" #[] 0)).update s.heap.objs.size (Obj.mapSeq (· ++ vs.toArray)) }) (hsz : vs.length ≤ sizeLine) :
    wpAny (model prog w) A (collect (.ref l)) Q E s := by
  obtain ⟨o, ho, hc, n, hd⟩ := id hl
  unfold collect
  refine wpAny_bind (wpAny_runValue (codeAny_builtin entry_proto_collect' ?_))
  show wpAny _ _ (do again (.builtin "list.__iadd__" ⟨[← newList [], .ref l], []⟩)) _ _ s
  refine wpAny_bind (wpAny_newList (wpAny_pure ⟨Code.quiet_builtin _ (by decide +kernel), codeAny_builtin entry_list_iadd' ?_⟩))
  show wpAny _ _ (Builtin.List.listExtendWith (.ref s.heap.objs.size) (.ref l) (.ref s.heap.objs.size)) _ _ { s with heap := s.heap.push (seqObj "list" #[] 0) }
  unfold Builtin.List.listExtendWith
  have ho' : (s.heap.push (seqObj "list" #[] 0)).get? l = some o := Heap.get?_push_of_some _ ho
  refine wpAny_bind (wpAny_typeOf (T := "tuple") ⟨o, ho', hc⟩ ?_)
  have ht : (Value.type "tuple" == Value.type "tuple") = true := by rfl
  rw [if_pos (by rw [ht]; simp)]
  refine wpAny_bind (listItems_at ho' hd ?_)
  refine wpAny_bind (listItems_at (xs := #[]) (n := 0) (Heap.get?_push_size _ rfl) rfl ?_)
  rw [if_neg (by simp)]
  refine wpAny_bind (listUpdate_at (xs := #[]) (n := 0) (Heap.get?_push_size _ rfl) rfl ?_ (Nat.zero_le _) (by show (#[] ++ vs.toArray).size ≤ sizeLine + 1; simp only [Array.size_append, List.size_toArray, List.length_nil]; omega))
  refine wpAny_pure ?_
  show wpAny (model prog w) A (do
      let o ← load s.heap.objs.size
      match o.data with
      | .seq xs _ => pure xs.toList
      | _ => unsupported "internal:collect") Q E { s with heap := (s.heap.push (seqObj "list" #[] 0)).update s.heap.objs.size (Obj.mapSeq (· ++ vs.toArray)) }
  refine wpAny_bind (wpAny_load (get?_update_seq (Heap.get?_push_size _ rfl) _) ?_)
  show wpAny _ _ (pure ((#[] : Array Value) ++ vs.toArray).toList) Q E _
  rw [show ((#[] : Array Value) ++ vs.toArray).toList = vs by simp]
  exact wpAny_pure h
theorem sorted_of_sortT {l : Addr} {vs : List Value} {kw : List (Str × Value)} {Q : Value → Shared → Prop} (hl : s.heap.IsTuple l vs.toArray) (hL : vs.length ≤ sizeLine) (ha1 : argsOk "sorted" ⟨[.ref l], kw⟩) (ha2 : ∀ x, argsOk "list.sort" ⟨[.ref x], kw⟩)
    (body : ∀ E' : Value → Shared → Prop, wpAny (model prog w) A.in1.in1 (Builtin.«list.sort» ⟨[.ref (s.heap.objs.size + 1)], kw⟩) (fun f s' => f = .done (.ret .none) ∧ Q (.ref (s.heap.objs.size + 1)) s') E' { s with heap := copyHeap s.heap vs }) :
    wpAny (model prog w) A (call (.builtin "sorted") [.ref l] kw) Q E s := by
  refine call_function_entry_kw kind_sorted plain_sorted entry_sorted ha1 ?_
  unfold Builtin.«sorted»
  refine wpAny_bind (m := checkCount "sorted" 1 1 _) (wpAny_pure ?_)
  refine wpAny_bind (collect_tupleT hl ?_ hL)
  refine wpAny_bind (wpAny_newList ?_ hL)
  have hsz : ((s.heap.push (seqObj "list" #[] 0)).update s.heap.objs.size (Obj.mapSeq (· ++ vs.toArray))).objs.size = s.heap.objs.size + 1 := by
    rw [Heap.size_update, size_push']
  show wpAny _ _ _ _ _ { s with heap := copyHeap s.heap vs }
  rw [hsz]
  refine wpAny_bind (wpAny_holding (wpAny_call_entry_kw slot_list_sort ⟨_, copyHeap_at s.heap vs, rfl⟩ entry_list_sort ?body (ha2 _)))
  case body =>
    show wpAny (model prog w) A.in1.in1 (Builtin.«list.sort» ⟨[.ref (s.heap.objs.size + 1)], kw⟩) _ _ _
    refine wpAny_mono (body _) (fun f s' hf => ?_) fun _ _ e => e
    obtain ⟨rfl, hq⟩ := hf
    exact ⟨_, rfl, wpAny_pure ⟨_, rfl, hq⟩⟩
theorem sorted_valsT {κ : PyProof.Rows.KeyKind} {l : Addr} {vs : List Value} {Q : Value → Shared → Prop} (hl : s.heap.IsTuple l vs.toArray) (S : SortsAt prog w A.in1.in1 { s with heap := sortingHeap (copyHeap s.heap vs) (s.heap.objs.size + 1) vs } κ vs) (hL : vs.length ≤ sizeLine)
    (h : Q (.ref (s.heap.objs.size + 1)) { s with heap := sortedAll s.heap vs (sortVals κ false vs vs).toArray }) : wpAny (model prog w) A (call (.builtin "sorted") [.ref l]) Q E s :=
  sorted_of_sortT hl hL (args_sorted1 _) (fun _ => args_list_sort _) fun _ => list_sort_vals (s := { s with heap := copyHeap s.heap vs }) (copyHeap_at s.heap vs) S hL ⟨rfl, h⟩
theorem sorted_dataT {l : Addr} {Q : Value → Shared → Prop} (hl : s.heap.IsTuple l vs.toArray) (e : EachIs R vs bs) (er : EachIs (fun v b => ∃ as, Reads s.heap v (enc b) as) vs bs) (hal : AllAlike (bs.map enc)) (hk : Sortable (bs.map enc)) (hL : bs.length ≤ sizeLine)
    (hu : ∀ b, b ∈ bs → A.units + 2 + (enc b).depth < cLine) (h : ∀ out, out.length = bs.length → EachIs R out (bs.mergeSort (dataLe false enc)) → Q (.ref (s.heap.objs.size + 1)) { s with heap := sortedAll s.heap vs (List.toArray out) }) :
    wpAny (model prog w) A (call (.builtin "sorted") [.ref l]) Q E s := by
  have er' : EachIs (fun v b => ∃ as, Reads (sortingHeap (copyHeap s.heap vs) (s.heap.objs.size + 1) vs) v (enc b) as) vs bs := er.mono fun _ _ ⟨as, r⟩ => ⟨as, PyProof.Rows.Reads.keeps (fun _ _ => sorting_copy_old) r⟩
  exact sorted_valsT hl (SortsAt.data (s := { s with heap := sortingHeap (copyHeap s.heap vs) (s.heap.objs.size + 1) vs }) (each_map (R := fun v d => ∃ as, Reads (sortingHeap (copyHeap s.heap vs) (s.heap.objs.size + 1) vs) v d as) enc er') hal hk (bound_map hu)) (by rw [e.length]; exact hL)
    (h _ (by rw [sortVals_length false rfl]; exact e.length) (sortVals_data false e er' hal))
end
end PySem.W
namespace TV
open PySem L2
section
variable {ca : Nat → Addr} {X : Cx} {pins : List (Addr × Obj)} {σ : St} {F H : Hp} {s : Shared}
theorem readsAll_each' {h : Heap} : ∀ {us : List Value} {ts : List T} {vs : List V} {as : List Addr}, ReadsAll h us (toDs ts) as → Vals vs us → vs.length = ts.length → PySem.W.EachIs (fun u (x : T × V) => RelV x.2 u ∧ ∃ as, Reads h u x.1.toD as) us (ts.zip vs)
  | _, [], vs, _, r, rv, hl => by
    have : vs = [] := List.eq_nil_of_length_eq_zero hl
    subst this
    cases rv
    exact .nil
  | us, t :: ts, vs, as, r, rv, hl => by
    cases rv with
    | nil => simp at hl
    | cons r1 r2 =>
      simp only [toDs] at r
      cases r with
      | cons q1 q2 => exact .cons ⟨r1, _, q1⟩ (readsAll_each' q2 r2 (by simpa using hl))
theorem views_pairs : ∀ {l : List (T × V)}, (∀ x ∈ l, View ca F x.1 x.2) → Views ca F (l.map (·.1)) (l.map (·.2))
  | [], _ => by simp [Views]
  | x :: l, h => by
    simp only [List.map_cons, Views]
    exact ⟨x.2, _, rfl, h x (by simp), views_pairs fun y hy => h y (by simp [hy])⟩
theorem views_zip : ∀ {ts : List T} {vs : List V}, Views ca F ts vs → ∀ x ∈ ts.zip vs, View ca F x.1 x.2
  | [], _, _, x, hx => by simp at hx
  | t :: ts, vs, h, x, hx => by
    simp only [Views] at h
    obtain ⟨v, r, rfl, h1, h2⟩ := h
    simp only [List.zip_cons_cons, List.mem_cons] at hx
    rcases hx with rfl | hx
    · exact h1
    · exact views_zip h2 x hx
theorem each_vals : ∀ {us : List Value} {l : List (T × V)} {Rr : Value → T × V → Prop}, (∀ u x, Rr u x → RelV x.2 u) → PySem.W.EachIs Rr us l → Vals (l.map (·.2)) us
  | _, _, _, _, .nil => .nil
  | _, _, _, h, .cons r q => .cons (h _ _ r) (each_vals h q)
theorem zip_fst : ∀ {ts : List T} {vs : List V}, ts.length = vs.length → (ts.zip vs).map (·.1) = ts
  | [], _, _ => by simp
  | t :: ts, v :: vs, h => by simp [zip_fst (by simpa using h)]
  | _ :: _, [], h => by simp at h
theorem toDs_map : ∀ ts : List T, toDs ts = ts.map T.toD
  | [] => rfl
  | t :: ts => by simp [toDs, toDs_map ts]
theorem sortT_zip {ts : List T} {vs : List V} (h : ts.length = vs.length) : (((ts.zip vs).mergeSort (PySem.W.dataLe false fun x : T × V => x.1.toD)).map (·.1)) = sortT ts := by
  rw [List.map_mergeSort (s := fun a b => !ltT b a)]
  · rw [zip_fst h]; rfl
  · intro a _ b _; rfl
theorem depth_mem : ∀ {ts : List T} {n : Nat}, PyData.depthAll (toDs ts) ≤ n → ∀ t ∈ ts, t.toD.depth ≤ n
  | t :: ts, n, h, x, hx => by
    simp only [toDs, PyData.depthAll] at h
    rcases List.mem_cons.mp hx with rfl | hx
    · omega
    · exact depth_mem (ts := ts) (by omega) x hx
theorem plainAll_of {ts : List T} (h : ∀ t ∈ ts, t.toD.plain = true) : PyData.plainAll (toDs ts) = true := by
  induction ts with
  | nil => rfl
  | cons t ts ih => simp only [toDs, PyData.plainAll, Bool.and_eq_true]; exact ⟨h t (by simp), ih fun x hx => h x (by simp [hx])⟩
theorem depthAll_of {ts : List T} {n : Nat} (h : ∀ t ∈ ts, t.toD.depth ≤ n) : PyData.depthAll (toDs ts) ≤ n := by
  induction ts with
  | nil => simp [toDs, PyData.depthAll]
  | cons t ts ih => simp only [toDs, PyData.depthAll]; have := h t (by simp); have := ih fun x hx => h x (by simp [hx]); omega
/-- a list or a tuple of frozen things, in the heap -/
theorem seq_at (I : Inv X pins σ H s) {t : T} {ts : List T} {v : V} {u : Value} (e : Same F H) (c : CV ca F H t v) (hs : seqOf t = some ts) (r : RelV v u) :
    ∃ (a : Addr) (vs : List V) (its : List Value), v = .ref a ∧ u = .ref a ∧ Views ca F ts vs ∧ fzs ts = true ∧ Vals vs its ∧ vs.length ≤ sizeLine ∧
      ((Rd H a (.lst vs) ∧ s.heap.IsList a its.toArray) ∨ (F a = some (.tup vs) ∧ PyProof.Rows.IsTup s.heap a its.toArray)) := by
  cases t with
  | lst o xs =>
    cases hs
    obtain ⟨a, vs, rfl, h, hv, hf⟩ := c
    cases r
    obtain ⟨z, its, n, rv, hl, e1⟩ := Inv.lstR I h
    exact ⟨a, vs, its, rfl, rfl, hv, hf, rv, z, .inl ⟨h, _, e1, rfl, n, rfl⟩⟩
  | tup xs =>
    cases hs
    obtain ⟨a, vs, rfl, h, hv, hf⟩ := c
    cases r
    obtain ⟨z, its, rv, p⟩ := I.hok a _ (e _ _ h)
    exact ⟨a, vs, its, rfl, rfl, hv, hf, rv, z, .inr ⟨h, p⟩⟩
  | _ => cases hs
theorem cvs1 {t : T} {vs : List V} (c : CVs ca F H [t] vs) : ∃ v, vs = [v] ∧ CV ca F H t v := by
  obtain ⟨v, r, rfl, h, e⟩ := c
  have e : r = [] := e
  subst e
  exact ⟨v, rfl, h⟩
theorem cvs2 {t t' : T} {vs : List V} (c : CVs ca F H [t, t'] vs) : ∃ v v', vs = [v, v'] ∧ CV ca F H t v ∧ CV ca F H t' v' := by
  obtain ⟨v, r, rfl, h, c⟩ := c
  obtain ⟨v', rfl, h'⟩ := cvs1 c
  exact ⟨v, v', rfl, h, h'⟩
theorem cvs3 {t t' t'' : T} {vs : List V} (c : CVs ca F H [t, t', t''] vs) : ∃ v v' v'', vs = [v, v', v''] ∧ CV ca F H t v ∧ CV ca F H t' v' ∧ CV ca F H t'' v'' := by
  obtain ⟨v, r, rfl, h, c⟩ := c
  obtain ⟨v', v'', rfl, h'⟩ := cvs2 c
  exact ⟨v, v', v'', rfl, h, h'⟩
/-- the values that built-in functions are -/
def bfV : BF → Value
  | .len => .builtin "len" | .sorted => .builtin "sorted" | .tuple => .type "tuple" | .list => .type "list" | .min => .builtin "min" | .max => .builtin "max"
  | .sum => .builtin "sum" | .all => .builtin "all" | .any => .builtin "any" | .abs => .builtin "abs" | .int => .type "int" | .dict => .type "dict" | .lrg => .type "list" | .trg => .type "tuple"
theorem ok_len : CallR X (bfV .len) (rF ca (bfT .len)) := by
  intro pins s σ H vs us Q I r ⟨F, ts, w, e, c, hg, q⟩
  cases ts with
  | nil => cases hg
  | cons t ts =>
    cases ts with
    | cons _ _ => cases hg
    | nil =>
      obtain ⟨v, rfl, c1⟩ := cvs1 c
      clear c
      simp only [bfT, Option.map_eq_some_iff] at hg
      obtain ⟨n, hn, rfl⟩ := hg
      cases t with
      | lst o xs =>
        cases hn
        obtain ⟨a, vs, rfl, h, hv, hf⟩ := c1
        refine call_len_seq pins s σ H _ us Q I r ⟨a, vs, rfl, .inl (.inl h), ?_⟩
        rw [← hv.length]; exact q.int
      | tup xs =>
        cases hn
        obtain ⟨a, vs, rfl, h, hv, hf⟩ := c1
        refine call_len_seq pins s σ H _ us Q I r ⟨a, vs, rfl, .inr (.inl (.inl (e _ _ h))), ?_⟩
        rw [← hv.length]; exact q.int
      | dic o ks xs =>
        cases hn
        obtain ⟨a, vs, rfl, h, hv, hf⟩ := c1
        rcases h with ⟨kk, rfl, l, x⟩ | ⟨kk, rfl, l, x⟩
        · refine call_lenD pins s σ H _ us Q I r ⟨a, _, rfl, x, ?_⟩
          have q := q.int
          rw [List.length_zip, ← l, Nat.min_self]
          simpa using q
        · refine call_len_dT pins s σ H _ us Q I r ⟨a, _, rfl, x, ?_⟩
          have q := q.int
          rw [List.length_zip, ← l, Nat.min_self]
          simpa using q
      | str z =>
        simp only [lenT] at hn
        split at hn
        · cases hn
          obtain rfl := c1
          exact call_len_str pins s σ H _ us Q I r ⟨z, rfl, sizeL_le (by assumption), q.int⟩
        · cases hn
      | _ => cases hn
theorem ok_tuple : CallR X (bfV .tuple) (rF ca (bfT .tuple)) := by
  intro pins s σ H vs us Q I r ⟨F, ts, w, e, c, hg, q⟩
  cases ts with
  | nil => cases hg
  | cons t ts =>
    cases ts with
    | cons _ _ => cases hg
    | nil =>
      obtain ⟨v, rfl, c1⟩ := cvs1 c
      clear c
      simp only [bfT, Option.map_eq_some_iff] at hg
      obtain ⟨xs, hn, rfl⟩ := hg
      cases t with
      | lst o xs =>
        cases hn
        obtain ⟨a, vs, rfl, h, hv, hf⟩ := c1
        exact call_tuple_of pins s σ H _ us Q I r ⟨a, vs, rfl, .inl ⟨.inl h, fun l hl => q.tup H _ _ l (Same.refl H) rfl hl hv hf⟩⟩
      | tup xs =>
        cases hn
        obtain ⟨a, vs, rfl, h, hv, hf⟩ := c1
        refine call_tuple_of pins s σ H _ us Q I r ⟨a, vs, rfl, .inr ⟨.inl (.inl (e _ _ h)), q.old H _ (Same.refl H) ?_ (by simpa [T.fz] using hf)⟩⟩
        simp only [View]
        exact ⟨a, vs, rfl, h, hv⟩
      | _ => cases hn
theorem ok_list : CallR X (bfV .list) (rF ca (bfT .list)) := by
  intro pins s σ H vs us Q I r ⟨F, ts, w, e, c, hg, q⟩
  cases ts with
  | nil => cases hg
  | cons t ts =>
    cases ts with
    | cons _ _ => cases hg
    | nil =>
      obtain ⟨v, rfl, c1⟩ := cvs1 c
      clear c
      simp only [bfT, Option.map_eq_some_iff] at hg
      obtain ⟨xs, hn, rfl⟩ := hg
      cases t with
      | lst o xs =>
        cases hn
        obtain ⟨a, vs, rfl, h, hv, hf⟩ := c1
        exact call_list_of pins s σ H _ us Q I r ⟨a, vs, rfl, .inl (.inl h), fun l hl => q.lst H _ _ l (Same.refl H) rfl hl hv hf⟩
      | tup xs =>
        cases hn
        obtain ⟨a, vs, rfl, h, hv, hf⟩ := c1
        exact call_list_of pins s σ H _ us Q I r ⟨a, vs, rfl, .inr (.inl (.inl (e _ _ h))), fun l hl => q.lst H _ _ l (Same.refl H) rfl hl hv hf⟩
      | _ => cases hn
theorem ok_sorted {k : Nat} (hr : Room k X.A) : CallR X (bfV .sorted) (rF ca (bfT .sorted)) := by
  intro pins s σ H vs us Q I r ⟨F, ts, w, e, c, hg, q⟩
  have hu : X.A.units + 64 < cLine := hr.units
  cases ts with
  | nil => cases hg
  | cons t ts =>
    cases ts with
    | cons _ _ => cases hg
    | nil =>
      obtain ⟨v, rfl, c1⟩ := cvs1 c
      clear c
      simp only [bfT, Option.bind_eq_some_iff] at hg
      obtain ⟨xs, hn, hg⟩ := hg
      split at hg
      · rename_i hok
        cases hg
        obtain ⟨u, rfl, ru⟩ := vals1 r
        obtain ⟨a, vs, its, rfl, rfl, hv, hf, rv, hz, hh⟩ := seq_at I e c1 hn ru
        simp only [sortOk, Bool.and_eq_true, List.all_eq_true, Bool.not_eq_true', decide_eq_true_eq, Bool.or_eq_true] at hok
        obtain ⟨⟨h1, h2⟩, h3⟩ := hok
        have pl : ∀ t ∈ xs, t.toD.plain = true := fun t m => data_plain (h1 t m).1
        obtain ⟨as, rd⟩ := views_reads I xs vs its (hv.mono e) (plainAll_of pl) rv
        have each := readsAll_each' rd rv hv.length.symm
        have hl : xs.length = vs.length := hv.length
        have mem1 : ∀ x ∈ xs.zip vs, x.1 ∈ xs := fun x hx => (List.of_mem_zip hx).1
        have al : PySem.W.AllAlike ((xs.zip vs).map fun x => x.1.toD) := by
          intro d hd d' hd'
          obtain ⟨x, hx, rfl⟩ := List.mem_map.mp hd
          obtain ⟨y, hy, rfl⟩ := List.mem_map.mp hd'
          exact h2 _ (mem1 x hx) _ (mem1 y hy)
        have so : PySem.W.Sortable ((xs.zip vs).map fun x => x.1.toD) := by
          rcases h3 with h3 | h3
          · refine .inl fun d hd => ?_
            obtain ⟨x, hx, rfl⟩ := List.mem_map.mp hd
            have := h3 _ (mem1 x hx)
            split at this
            · rename_i y z heq
              rw [heq]
              exact ⟨_, _, rfl⟩
            · cases this
          · refine .inr fun d hd => ?_
            obtain ⟨x, hx, rfl⟩ := List.mem_map.mp hd
            have q1 := h3 _ (mem1 x hx)
            have q2 := (h1 _ (mem1 x hx)).2
            revert q1 q2
            cases x.1 <;> simp [T.isNon, T.toD]
        have fin : ∀ out : List Value, out.length = (xs.zip vs).length → PySem.W.EachIs (fun u (x : T × V) => RelV x.2 u ∧ ∃ as, Reads s.heap u x.1.toD as) out ((xs.zip vs).mergeSort (PySem.W.dataLe false fun x => x.1.toD)) →
            EP X pins σ Q (.ref (s.heap.objs.size + 1)) { s with heap := PyProof.Rows.sortedAll s.heap its (List.toArray out) } := fun out ho eo => by
          obtain ⟨ep, he'⟩ := PyProof.Rows.sortedAll_at s.heap its out.toArray
          have vo := each_vals (fun _ _ h => h.1) eo
          have hlen : (((xs.zip vs).mergeSort (PySem.W.dataLe false fun x => x.1.toD)).map (·.2)).length ≤ sizeLine := by
            rw [List.length_map, List.length_mergeSort, List.length_zip, hl, Nat.min_self]; exact hz
          refine ⟨.ref _, upd H (s.heap.objs.size + 1) (.lst (((xs.zip vs).mergeSort (PySem.W.dataLe false fun x => x.1.toD)).map (·.2))), I.laid (t' := s.toks) (fun _ _ => PyProof.Rows.sortedAll_old) (Nat.le_succ _) ⟨hlen, out, ep, vo, he'⟩, rfl, ?_⟩
          have hv' : Views ca F (sortT xs) (((xs.zip vs).mergeSort (PySem.W.dataLe false fun x => x.1.toD)).map (·.2)) := by
            rw [← sortT_zip hl]
            exact views_pairs fun x hx => views_zip hv x (List.mem_mergeSort.mp hx)
          exact q.lst H _ _ _ (Same.refl H) rfl (I.hok.fresh (Nat.le_succ _)) hv' (fzs_sub hf fun t m => List.mem_mergeSort.mp m)
        have dep : ∀ b, b ∈ xs.zip vs → X.A.units + 2 + b.1.toD.depth < cLine := fun b hb => by
          have := data_depth (h1 _ (mem1 b hb)).1
          omega
        have zl : (xs.zip vs).length ≤ sizeLine := by rw [List.length_zip, hl, Nat.min_self]; exact hz
        rcases hh with ⟨_, hli⟩ | ⟨_, o, ho, hc, n, hd⟩
        · exact PySem.W.sorted_data hli each (each.mono fun _ _ h => h.2) al so zl dep fin
        · exact PySem.W.sorted_dataT ⟨o, ho, hc, n, hd⟩ each (each.mono fun _ _ h => h.2) al so zl dep fin
      · cases hg
end
end TV
/-! built-in functions, further -/
namespace TV
open PySem L2
open PySem.W (minD maxD AlikeAll min_list_data min_tuple_data max_list_data max_tuple_data all_list_data all_tuple_data any_list_data any_tuple_data)
section
variable {ca : Nat → Addr} {X : Cx} {pins : List (Addr × Obj)} {σ : St} {F H : Hp} {s : Shared}
mutual
theorem toD_inj : ∀ (a b : T), a.fz = true → b.fz = true → a.toD.plain = true → a.toD = b.toD → a = b
  | .non, b, _, _, _, h => by cases b <;> simp_all [T.toD]
  | .bl _, b, _, _, _, h => by cases b <;> simp_all [T.toD]
  | .int _, b, _, _, _, h => by cases b <;> simp_all [T.toD]
  | .str _, b, _, _, _, h => by cases b <;> simp_all [T.toD]
  | .tup x, b, f, g, p, h => by
    cases b <;> simp only [T.toD] at h <;> try contradiction
    injection h with h
    simp only [T.fz, T.toD, PyData.plain] at f g p
    rw [toDs_inj x _ f g p h]
  | .lst o x, b, f, g, p, h => by
    cases b <;> simp only [T.toD] at h <;> try contradiction
    injection h with h
    simp only [T.fz, T.toD, PyData.plain, Bool.and_eq_true, Bool.not_eq_true'] at f g p
    rw [toDs_inj x _ f.2 g.2 p h, f.1, g.1]
  | .dic _ _ _, _, _, _, p, _ => by simp [T.toD, PyData.plain] at p
  | .obj _ _ _ _, _, _, _, p, _ => by simp [T.toD, PyData.plain] at p
theorem toDs_inj : ∀ (a b : List T), fzs a = true → fzs b = true → PyData.plainAll (toDs a) = true → toDs a = toDs b → a = b
  | [], b, _, _, _, h => by cases b <;> simp_all [toDs]
  | x :: a, b, f, g, p, h => by
    cases b with
    | nil => simp [toDs] at h
    | cons y b =>
      simp only [toDs, List.cons.injEq, fzs, Bool.and_eq_true, PyData.plainAll] at f g p h
      rw [toD_inj x y f.1 g.1 p.1 h.1, toDs_inj a b f.2 g.2 p.2 h.2]
end
theorem minT_toD : ∀ (ts : List T) (t : T), (minT t ts).toD = minD t.toD (toDs ts)
  | [], t => rfl
  | x :: ts, t => by
    show (minT (if ltT x t then x else t) ts).toD = minD (if PySem.W.dataLt x.toD t.toD then x.toD else t.toD) (toDs ts)
    rw [minT_toD ts]
    unfold ltT
    split <;> rfl
theorem maxT_toD : ∀ (ts : List T) (t : T), (maxT t ts).toD = maxD t.toD (toDs ts)
  | [], t => rfl
  | x :: ts, t => by
    show (maxT (if ltT t x then x else t) ts).toD = maxD (if PySem.W.dataLt t.toD x.toD then x.toD else t.toD) (toDs ts)
    rw [maxT_toD ts]
    unfold ltT
    split <;> rfl
theorem minT_mem : ∀ (ts : List T) (t : T), minT t ts ∈ t :: ts
  | [], t => by simp [minT]
  | x :: ts, t => by
    show minT (if ltT x t then x else t) ts ∈ _
    have := minT_mem ts (if ltT x t then x else t)
    split at this <;> split <;> simp_all <;> grind
theorem maxT_mem : ∀ (ts : List T) (t : T), maxT t ts ∈ t :: ts
  | [], t => by simp [maxT]
  | x :: ts, t => by
    show maxT (if ltT t x then x else t) ts ∈ _
    have := maxT_mem ts (if ltT t x then x else t)
    split at this <;> split <;> simp_all <;> grind
theorem reads_vals : ∀ {us : List Value} {vs : List V} {i : Nat} {u : Value}, Vals vs us → us[i]? = some u → ∃ v, vs[i]? = some v ∧ RelV v u
  | _, _, _, _, .nil, h => by simp at h
  | _, _, 0, _, .cons r _, h => by simp at h; subst h; exact ⟨_, by simp, r⟩
  | _, _, i + 1, _, .cons _ q, h => by
    obtain ⟨v, a, b⟩ := reads_vals q (i := i) (by simpa using h)
    exact ⟨v, by simpa using a, b⟩
theorem views_get : ∀ {ts : List T} {vs : List V} {i : Nat} {v : V}, Views ca F ts vs → vs[i]? = some v → ∃ t, ts[i]? = some t ∧ View ca F t v
  | [], _, _, _, h, e => by simp only [Views] at h; subst h; simp at e
  | t :: ts, vs, i, v, h, e => by
    simp only [Views] at h
    obtain ⟨w, r, rfl, h1, h2⟩ := h
    cases i with
    | zero => simp at e; subst e; exact ⟨t, by simp, h1⟩
    | succ i =>
      obtain ⟨t', a, b⟩ := views_get (i := i) h2 (by simpa using e)
      exact ⟨t', by simpa using a, b⟩
/-- the item of a list that reads as one of its trees -/
theorem pick {xs : List T} {vs : List V} {its : List Value} {m : T} {i : Nat} {u : Value} {h' : Heap} {bs : List Addr} {d : PyData} (I : Inv X pins σ H s) (e : Same F H) (hv : Views ca F xs vs) (hf : fzs xs = true) (rv : Vals vs its) (pl : ∀ t ∈ xs, t.toD.plain = true)
    (hm : m ∈ xs) (hd : m.toD = d) (hi : its.toArray[i]? = some u) (hr : Reads h' u d bs) (k : ∀ b o, s.heap.get? b = some o → h'.get? b = some o) : ∃ v, RelV v u ∧ View ca F m v := by
  obtain ⟨v, hvi, rvu⟩ := reads_vals rv (by simpa using hi)
  obtain ⟨t, ht, vt⟩ := views_get hv hvi
  have mt : t ∈ xs := List.mem_of_getElem? ht
  obtain ⟨as, r1⟩ := view_reads I t v u (vt.mono e) (pl t mt) rvu
  have r2 := PyProof.Rows.Reads.keeps k r1
  have := PySem.SeqAt.plain_unique _ _ _ _ _ (pl t mt) r2 hr
  have : t = m := toD_inj t m (fzs_mem hf mt) (fzs_mem hf hm) (pl t mt) (this.trans hd.symm)
  subst this
  exact ⟨v, rvu, vt⟩
theorem ok_min {k : Nat} (hr : Room k X.A) (hc : X.calm = true) : CallR X (bfV .min) (rF ca (bfT .min)) := by
  intro pins s σ H vs us Q I r ⟨F, ts, w, e, c, hg, q⟩
  have hu : X.A.units + 64 < cLine := hr.units
  cases ts with
  | nil => cases hg
  | cons t ts =>
    cases ts with
    | cons _ _ => cases hg
    | nil =>
      obtain ⟨v, rfl, c1⟩ := cvs1 c
      clear c
      simp only [bfT, Option.bind_eq_some_iff] at hg
      obtain ⟨xs, hn, hg⟩ := hg
      cases xs with
      | nil => cases hg
      | cons x xs =>
        simp only at hg
        split at hg
        · rename_i hok
          cases hg
          obtain ⟨u, rfl, ru⟩ := vals1 r
          obtain ⟨a, vs, its, rfl, rfl, hv, hf, rv, hz, hh⟩ := seq_at I e c1 hn ru
          simp only [cmpOk, Bool.and_eq_true, List.all_eq_true, Bool.not_eq_true'] at hok
          obtain ⟨h1, h2⟩ := hok
          have pl : ∀ t ∈ x :: xs, t.toD.plain = true := fun t m => data_plain (h1 t m).1
          obtain ⟨as, rd⟩ := views_reads I (x :: xs) vs its (hv.mono e) (plainAll_of pl) rv
          have al : AlikeAll (x.toD :: toDs xs) := by
            have e1 : x.toD :: toDs xs = (x :: xs).map T.toD := by rw [toDs_map]; rfl
            rw [e1]
            refine ⟨fun d hd d' hd' => ?_, fun d hd => ?_⟩
            · obtain ⟨y, hy, rfl⟩ := List.mem_map.mp hd
              obtain ⟨z, hz, rfl⟩ := List.mem_map.mp hd'
              exact h2 _ hy _ hz
            · obtain ⟨y, hy, rfl⟩ := List.mem_map.mp hd
              have := (h1 y hy).2
              revert this
              cases y <;> simp [T.isNon, T.toD]
          have dp : PyData.depthAll (toDs (x :: xs)) ≤ 60 := depthAll_of fun t m => data_depth (h1 t m).1
          have fin : ∀ (i : Nat) (v : Value) (h' : Heap) (tk : Nat) (bs : List Addr), its.toArray[i]? = some v → Reads h' v (minD x.toD (toDs xs)) bs → (∀ b o, s.heap.get? b = some o → h'.get? b = some o) → EP X pins σ Q v { s with heap := h', toks := tk } := fun i v h' tk bs hi hr k => by
            obtain ⟨y, ry, vy⟩ := pick I e hv hf rv pl (minT_mem xs x) (minT_toD xs x) hi hr k
            exact ⟨y, H, I.kept k, ry, q.old H y (Same.refl H) vy (fzs_mem hf (minT_mem xs x))⟩
          rcases hh with ⟨_, hli⟩ | ⟨_, o, ho, hcl, n, hd⟩
          · exact min_list_data (I.ok.hd hc) hli rd al (by simp only [toDs] at dp; omega) fin
          · exact min_tuple_data (I.ok.hd hc) ⟨o, ho, hcl, n, hd⟩ rd al (by simp only [toDs] at dp; omega) fin
        · cases hg
theorem mapM_some {α β : Type} {f : α → Option β} : ∀ {l : List α} {r : List β}, l.mapM f = some r → l.map f = r.map some
  | [], r, h => by
    rw [List.mapM_nil] at h
    have : r = [] := (Option.some.inj h).symm
    subst this; rfl
  | a :: l, r, h => by
    rw [List.mapM_cons] at h
    simp only [Option.bind_eq_bind, Option.bind_eq_some_iff, Option.pure_def] at h
    obtain ⟨b, h1, bs, h2, h3⟩ := h
    cases h3
    simp [h1, mapM_some h2]
theorem ints_views : ∀ {ts : List T} {ns : List Int} {vs : List V}, ts.map intOf = ns.map some → Views ca F ts vs → vs = ns.map V.int
  | [], [], vs, _, h => by simp only [Views] at h; subst h; rfl
  | [], _ :: _, _, h, _ => by simp at h
  | _ :: _, [], _, h, _ => by simp at h
  | t :: ts, n :: ns, vs, h, hv => by
    simp only [List.map_cons, List.cons.injEq] at h
    simp only [Views] at hv
    obtain ⟨v, r, rfl, h1, h2⟩ := hv
    rw [ints_views h.2 h2]
    cases t with
    | int i =>
      simp only [intOf, Option.some.injEq] at h
      simp only [View] at h1
      rw [h1, h.1]
      rfl
    | _ => simp [intOf] at h
theorem ok_sum (hc : X.calm = true) : CallR X (bfV .sum) (rF ca (bfT .sum)) := by
  intro pins s σ H vs us Q I r ⟨F, ts, w, e, c, hg, q⟩
  unfold bfT at hg
  split at hg <;> try contradiction
  rename_i o xs heq
  · obtain ⟨v, rfl, c1⟩ := cvs1 c
    clear c
    simp only [Option.map_eq_some_iff] at hg
    obtain ⟨ns, hm, rfl⟩ := hg
    obtain ⟨a, vs, rfl, hl, hv, hf⟩ := c1
    have ev := ints_views (mapM_some hm) hv
    subst ev
    exact cr_sum hc pins s σ H _ _ Q I r ⟨a, ns, rfl, .inl hl, q.int⟩
theorem bools_mem : ∀ {ts : List T} {bs : List Bool}, ts.map boolOf = bs.map some → ts = bs.map T.bl
  | [], [], _ => rfl
  | [], _ :: _, h => by simp at h
  | _ :: _, [], h => by simp at h
  | t :: ts, n :: ns, h => by
    simp only [List.map_cons, List.cons.injEq] at h
    rw [bools_mem h.2]
    cases t with
    | bl i =>
      simp only [boolOf, Option.some.injEq] at h
      rw [h.1]
      rfl
    | _ => simp [boolOf] at h
theorem toDs_bools : ∀ bs : List Bool, toDs (bs.map T.bl) = bs.map PyData.bool
  | [] => rfl
  | b :: bs => by simp [toDs, T.toD, toDs_bools bs]
theorem plain_bools : ∀ bs : List Bool, PyData.plainAll (bs.map PyData.bool) = true
  | [] => rfl
  | b :: bs => by simp [PyData.plainAll, PyData.plain, plain_bools bs]
theorem ok_all (hc : X.calm = true) : CallR X (bfV .all) (rF ca (bfT .all)) := by
  intro pins s σ H vs us Q I r ⟨F, ts, w, e, c, hg, q⟩
  cases ts with
  | nil => cases hg
  | cons t ts =>
    cases ts with
    | cons _ _ => cases hg
    | nil =>
      obtain ⟨v, rfl, c1⟩ := cvs1 c
      clear c
      simp only [bfT, Option.bind_eq_some_iff, Option.map_eq_some_iff] at hg
      obtain ⟨xs, hn, ns, hm, rfl⟩ := hg
      obtain ⟨u, rfl, ru⟩ := vals1 r
      obtain ⟨a, vs, its, rfl, rfl, hv, hf, rv, hz, hh⟩ := seq_at I e c1 hn ru
      have ex := bools_mem (mapM_some hm)
      subst ex
      obtain ⟨as, rd⟩ := views_reads I _ vs its (hv.mono e) (by rw [toDs_bools]; exact plain_bools ns) rv
      rw [toDs_bools] at rd
      have fit : ∀ x ∈ ns.map PyData.bool, PyData.fits63 x := fun x hx => by
        obtain ⟨b, _, rfl⟩ := List.mem_map.mp hx
        trivial
      have ea : (ns.map PyData.bool).all PyData.truthy = ns.all id := by
        rw [List.all_map]; rfl
      have q := q.bl
      rcases hh with ⟨_, hli⟩ | ⟨_, o, ho, hcl, n, hd⟩
      · refine all_list_data (I.ok.hd hc) hli rd (plain_bools ns) fit fun h' tk k => ?_
        rw [ea]; exact ⟨.bl _, H, I.kept k, rfl, q⟩
      · refine all_tuple_data (I.ok.hd hc) ⟨o, ho, hcl, n, hd⟩ rd (plain_bools ns) fit fun h' tk k => ?_
        rw [ea]; exact ⟨.bl _, H, I.kept k, rfl, q⟩
theorem ok_any (hc : X.calm = true) : CallR X (bfV .any) (rF ca (bfT .any)) := by
  intro pins s σ H vs us Q I r ⟨F, ts, w, e, c, hg, q⟩
  cases ts with
  | nil => cases hg
  | cons t ts =>
    cases ts with
    | cons _ _ => cases hg
    | nil =>
      obtain ⟨v, rfl, c1⟩ := cvs1 c
      clear c
      simp only [bfT, Option.bind_eq_some_iff, Option.map_eq_some_iff] at hg
      obtain ⟨xs, hn, ns, hm, rfl⟩ := hg
      obtain ⟨u, rfl, ru⟩ := vals1 r
      obtain ⟨a, vs, its, rfl, rfl, hv, hf, rv, hz, hh⟩ := seq_at I e c1 hn ru
      have ex := bools_mem (mapM_some hm)
      subst ex
      obtain ⟨as, rd⟩ := views_reads I _ vs its (hv.mono e) (by rw [toDs_bools]; exact plain_bools ns) rv
      rw [toDs_bools] at rd
      have fit : ∀ x ∈ ns.map PyData.bool, PyData.fits63 x := fun x hx => by
        obtain ⟨b, _, rfl⟩ := List.mem_map.mp hx
        trivial
      have ea : (ns.map PyData.bool).any PyData.truthy = ns.any id := by
        rw [List.any_map]; rfl
      have q := q.bl
      rcases hh with ⟨_, hli⟩ | ⟨_, o, ho, hcl, n, hd⟩
      · refine any_list_data (I.ok.hd hc) hli rd (plain_bools ns) fit fun h' tk k => ?_
        rw [ea]; exact ⟨.bl _, H, I.kept k, rfl, q⟩
      · refine any_tuple_data (I.ok.hd hc) ⟨o, ho, hcl, n, hd⟩ rd (plain_bools ns) fit fun h' tk k => ?_
        rw [ea]; exact ⟨.bl _, H, I.kept k, rfl, q⟩
theorem ok_abs : CallR X (bfV .abs) (rF ca (bfT .abs)) := by
  intro pins s σ H vs us Q I r ⟨F, ts, w, e, c, hg, q⟩
  unfold bfT at hg
  split at hg <;> try contradiction
  cases hg
  obtain ⟨v, rfl, c1⟩ := cvs1 c
  obtain rfl := c1
  exact call_abs pins s σ H _ us Q I r ⟨_, rfl, q.int⟩
theorem ok_int : CallR X (bfV .int) (rF ca (bfT .int)) := by
  intro pins s σ H vs us Q I r ⟨F, ts, w, e, c, hg, q⟩
  unfold bfT at hg
  split at hg <;> try contradiction
  · cases hg
    obtain ⟨v, rfl, c1⟩ := cvs1 c
    obtain rfl := c1
    exact call_int1 pins s σ H _ us Q I r (.inl ⟨_, rfl, q.int⟩)
  · cases hg
    obtain ⟨v, rfl, c1⟩ := cvs1 c
    obtain rfl := c1
    exact call_int1 pins s σ H _ us Q I r (.inr ⟨_, rfl, q.int⟩)
end
end TV
/-! expressions -/
namespace TV
open PySem L2
section
variable {X : Cx} {G : Par} {W : WX} {C : Ctx} {R F H : Hp} {σ : St} {η : Env} {tmp : List (V × T)}
/-! ### operands handed on -/
theorem PlV.frz : ∀ {p : List Nat} {t : T} {u v : V}, PlV G.ca H t u p v → PlV G.ca H t.frz u p v
  | [], _, _, _, h => h
  | j :: p, t, u, v, h => by
    obtain ⟨a, vs, k, x, rfl, h1, h2, h3, h4⟩ := h
    have kf : ∀ {ts : List T} {k : T}, ts[j]? = some k → (frzs ts)[j]? = some k.frz := by
      intro ts k h
      have : frzs ts = ts.map T.frz := by
        clear h
        induction ts with
        | nil => rfl
        | cons t ts ih => simp [frzs, ih]
      rw [this, List.getElem?_map, h]; rfl
    cases t with
    | lst o ts =>
      cases o with
      | true => exact ⟨a, vs, k.frz, x, rfl, h1, kf h2, h3, PlV.frz h4⟩
      | false => exact ⟨a, vs, k, x, rfl, h1, h2, h3, h4⟩
    | dic o ks ts =>
      cases o with
      | true => exact ⟨a, vs, k.frz, x, rfl, h1, kf h2, h3, PlV.frz h4⟩
      | false => exact ⟨a, vs, k, x, rfl, h1, h2, h3, h4⟩
    | obj o c ns ts =>
      cases o with
      | true => exact ⟨a, vs, k.frz, x, rfl, h1, kf h2, h3, PlV.frz h4⟩
      | false => exact ⟨a, vs, k, x, rfl, h1, h2, h3, h4⟩
    | _ => exact False.elim h1
theorem kidsAt_set {t : T} {a : Addr} {vs : List V} {ks : List T} (h : KidsAt G.ca H t a vs) : KidsAt G.ca H (t.setKids ks) a vs := by
  cases t <;> first | exact h | exact False.elim h
theorem kids_set {t : T} {a : Addr} {vs : List V} {ks : List T} (h : KidsAt G.ca H t a vs) : (t.setKids ks).kids = ks := by
  cases t <;> first | rfl | exact False.elim h
theorem PlV.put : ∀ {q p : List Nat} {t n : T} {u v : V}, PlV G.ca H t u p v → t.at q = some n → PlV G.ca H (t.put q n.frz) u p v
  | [], p, t, n, u, v, h, e => by
    simp only [T.at] at e
    split at e
    · obtain rfl := Option.some.inj e
      exact h.frz
    · cases e
  | i :: q, [], t, n, u, v, h, e => h
  | i :: q, j :: p, t, n, u, v, h, e => by
    simp only [T.at] at e
    split at e
    · split at e
      · rename_i k ek
        obtain ⟨a, vs, k2, x, rfl, h1, h2, h3, h4⟩ := h
        simp only [T.put, ek]
        by_cases ij : i = j
        · subst ij
          rw [ek] at h2
          obtain rfl := Option.some.inj h2
          have hi : i < t.kids.length := (List.getElem?_eq_some_iff.mp ek).1
          exact ⟨a, vs, k.put q n.frz, x, rfl, kidsAt_set h1, by rw [kids_set h1, List.getElem?_set_self hi], h3, PlV.put h4 e⟩
        · exact ⟨a, vs, k2, x, rfl, kidsAt_set h1, by rw [kids_set h1, List.getElem?_set_ne ij]; exact h2, h3, h4⟩
      · cases e
    · cases e
/-- a place, if its slot is still there -/
def PlW (ca : Nat → Addr) (H : Hp) (σ : St) (η : Env) (i : Nat) (p : List Nat) (v : V) : Prop := (∃ t, η[i]? = some (some t)) → PlO ca H σ η i p v
def PlsW (G : Par) (H : Hp) (σ : St) (η : Env) : List Opd → List V → Prop
  | [], vs => vs = []
  | .v _ :: os, vs => ∃ v r, vs = v :: r ∧ PlsW G H σ η os r
  | .pl i p :: os, vs => ∃ v r, vs = v :: r ∧ PlW G.ca H σ η i p v ∧ PlsW G H σ η os r
theorem Pls.w : ∀ {os : List Opd} {vs : List V}, Pls G H σ η os vs → PlsW G H σ η os vs
  | [], _, h => h
  | .v _ :: os, vs, h => by
    simp only [Pls] at h
    obtain ⟨v, r, e, h⟩ := h
    exact ⟨v, r, e, Pls.w h⟩
  | .pl i p :: os, vs, h => by
    simp only [Pls] at h
    obtain ⟨v, r, e, h1, h⟩ := h
    exact ⟨v, r, e, fun _ => h1, Pls.w h⟩
theorem PlsW.map {η' : Env} (k : ∀ i p v, PlW G.ca H σ η i p v → PlW G.ca H σ η' i p v) : ∀ {os : List Opd} {vs : List V}, PlsW G H σ η os vs → PlsW G H σ η' os vs
  | [], _, h => h
  | .v _ :: os, vs, h => by
    obtain ⟨v, r, e, h⟩ := h
    exact ⟨v, r, e, PlsW.map k h⟩
  | .pl i p :: os, vs, h => by
    obtain ⟨v, r, e, h1, h⟩ := h
    exact ⟨v, r, e, k _ _ _ h1, PlsW.map k h⟩
theorem PlsW.len : ∀ {os : List Opd} {vs : List V}, PlsW G H σ η os vs → vs.length = os.length
  | [], _, h => by rw [show _ = _ from h]; rfl
  | .v _ :: os, vs, h => by
    obtain ⟨v, r, e, h⟩ := h
    rw [e, List.length_cons, List.length_cons, PlsW.len h]
  | .pl i p :: os, vs, h => by
    obtain ⟨v, r, e, h1, h⟩ := h
    rw [e, List.length_cons, List.length_cons, PlsW.len h]
theorem PlW.putF {i j : Nat} {p q : List Nat} {n : T} {v : V} (h : PlW G.ca H σ η j q v) (hg : get η i p = some n) : PlW G.ca H σ (put η i p n.frz) j q v := by
  obtain ⟨t, ht, ha⟩ := get_some hg
  rw [put_eq ht]
  rintro ⟨t', e⟩
  have hi : i < η.length := (List.getElem?_eq_some_iff.mp ht).1
  by_cases ij : i = j
  · subst ij
    have h := h ⟨t, ht⟩
    cases q with
    | nil => exact h
    | cons z q =>
      obtain ⟨t2, u, h1, h2, h3⟩ := h
      rw [ht] at h1
      obtain rfl := Option.some.inj (Option.some.inj h1)
      exact ⟨_, u, by rw [List.getElem?_set_self hi], h2, h3.put ha⟩
  · rw [List.getElem?_set_ne ij] at e
    have h := h ⟨t', e⟩
    cases q with
    | nil => exact h
    | cons z q =>
      obtain ⟨t2, u, h1, h2, h3⟩ := h
      exact ⟨t2, u, by rw [List.getElem?_set_ne ij]; exact h1, h2, h3⟩
theorem PlW.none {i j : Nat} {q : List Nat} {v : V} (h : PlW G.ca H σ η j q v) : PlW G.ca H σ (η.set i none) j q v := by
  rintro ⟨t', e⟩
  by_cases ij : i = j
  · subst ij
    by_cases hi : i < η.length
    · rw [List.getElem?_set_self hi] at e; cases e
    · rw [List.getElem?_eq_none (by simpa using hi)] at e; cases e
  · rw [List.getElem?_set_ne ij] at e
    have h := h ⟨t', e⟩
    cases q with
    | nil => exact h
    | cons z q =>
      obtain ⟨t2, u, h1, h2, h3⟩ := h
      exact ⟨t2, u, by rw [List.getElem?_set_ne ij]; exact h1, h2, h3⟩
/-- one operand frozen -/
theorem fre_ok {x : Opd} {t : T} {η' : Env} {v : V} {l : List (V × T)} (o : G.Ok R F H σ η l) (hl : l = tms [x] [v] ++ tmp) (hp : ∀ i p, x = .pl i p → PlW G.ca H σ η i p v) (h : fre η x = some (t, η')) :
    ∃ F', Same F F' ∧ G.Ok R F' H σ η' tmp ∧ G.View F' t v ∧ t.fz = true ∧ ∀ i p v, PlW G.ca H σ η i p v → PlW G.ca H σ η' i p v := by
  subst hl
  cases x with
  | v u =>
    simp only [fre] at h
    cases h
    obtain ⟨F', a, b, c, d⟩ := Ok.freezeT (show G.Ok R F H σ η ((v, u) :: tmp) from o)
    exact ⟨F', a, b, c, d, fun _ _ _ h => h⟩
  | pl i p =>
    simp only [fre] at h
    split at h
    · rename_i n hn
      cases h
      obtain ⟨t0, ht0, _⟩ := get_some hn
      obtain ⟨F', a, b, c, d⟩ := Ok.freezeP (show G.Ok R F H σ η tmp from o) hn (hp i p rfl ⟨t0, ht0⟩)
      exact ⟨F', a, b, c, d, fun _ _ _ h => h.putF hn⟩
    · cases h
def tmz : List T → List V → List (V × T)
  | t :: ts, v :: vs => tmz ts vs ++ [(v, t)]
  | _, _ => []
/-- the written arguments' slots -/
def IoV (σ : St) : List Bool → List V → List Nat → Prop
  | _, [], is => is = []
  | bs, v :: vs, is => if bs.headD false = true then ∃ i r, is = i :: r ∧ σ[i]? = some (some v) ∧ IoV σ bs.tail vs r else IoV σ bs.tail vs is
theorem perm_mid {α : Type} (a : List α) (x : α) (b : List α) : ((a ++ [x]) ++ b).Perm (x :: (a ++ b)) := by
  rw [List.append_assoc]
  exact List.perm_middle
theorem Ok.takeSlot {i : Nat} {t : T} {v : V} (o : G.Ok R F H σ η tmp) (h : η[i]? = some (some t)) (hv : σ[i]? = some (some v)) : G.Ok R F H σ (η.set i none) ((v, t) :: tmp) := by
  obtain ⟨a1, a2, h1, h2, h3, h4⟩ := o.own
  have hi : i < η.length := (List.getElem?_eq_some_iff.mp h).1
  obtain ⟨s, e, pre, an, post, q1, q2, rfl, q4, q5⟩ := h1.focus hi
  rw [h] at q2
  obtain rfl := Option.some.inj q2
  obtain ⟨u, rfl, w⟩ := q4
  rw [hv] at q1
  obtain rfl := Option.some.inj (Option.some.inj q1)
  have q6 := q5 F H (some v) none [] (Same.refl F) (fun _ _ _ e => e) rfl
  rw [set_same hv] at q6
  refine ⟨o.same, o.fr, ⟨_, an ++ a2, q6, by simp only [OkT]; exact ⟨an, a2, rfl, w, h2⟩, fun a => ?_, fun a ha => h4 a ?_⟩, o.pins⟩
  · have := h3 a
    simp only [List.count_append, List.count_nil] at *; omega
  · simp only [List.mem_append, List.not_mem_nil, or_false] at ha ⊢
    rcases ha with (z | z) | z | z <;> simp [z]
theorem Ok.fill {i : Nat} {t : T} {v : V} (o : G.Ok R F H σ η ((v, t) :: tmp)) (hv : σ[i]? = some (some v)) : G.Ok R F H σ (η.set i (some t)) tmp := by
  obtain ⟨a1, a2, h1, h2, h3, h4⟩ := o.own
  have hi : i < η.length := by rw [← o.len]; exact (List.getElem?_eq_some_iff.mp hv).1
  simp only [OkT] at h2
  obtain ⟨b1, b2, rfl, h5, h6⟩ := h2
  obtain ⟨s, e, pre, an, post, q1, q2, rfl, q4, q5⟩ := h1.focus hi
  have q6 := q5 F H (some v) (some t) b1 (Same.refl F) (fun _ _ _ e => e) ⟨v, rfl, h5⟩
  rw [set_same hv] at q6
  refine ⟨o.same, o.fr, ⟨_, b2, q6, h6, fun a => ?_, fun a ha => h4 a ?_⟩, o.pins⟩
  · have := h3 a
    simp only [List.count_append] at *; omega
  · simp only [List.mem_append] at ha ⊢
    rcases ha with ((z | z) | z) | z <;> simp [z]
theorem args_ok : ∀ {os : List Opd} {bs : List Bool} {η : Env} {ts : List T} {η' : Env} {is : List Nat} {vs : List V} {F : Hp} {tmp : List (V × T)}, args os bs η = some (ts, η', is) → G.Ok R F H σ η (tms os vs ++ tmp) → PlsW G H σ η os vs →
    ∃ F', Same F F' ∧ G.Ok R F' H σ η' (tmz ts vs ++ tmp) ∧ IoV σ bs vs is ∧ ts.length = vs.length ∧ ∀ (k : Nat) t, ts[k]? = some t → bs.getD k false = false → t.fz = true
  | [], bs, η, ts, η', is, vs, F, tmp, h, o, p => by
    have e : vs = [] := p
    subst e
    simp only [args] at h
    cases h
    refine ⟨F, Same.refl F, by simpa [tms, tmz] using o, by cases bs <;> rfl, rfl, by simp⟩
  | x :: os, bs, η, ts, η', is, vs, F, tmp, h, o, p => by
    simp only [args] at h
    split at h
    · -- a written one
      rename_i i hb
      obtain ⟨v, vs, rfl, hp, p⟩ := p
      split at h
      · rename_i t ht
        split at h
        · split at h
          · rename_i ts1 η1 is1 h1
            cases h
            have hv : σ[i]? = some (some v) := hp ⟨t, ht⟩
            simp only [tms] at o
            have o2 : G.Ok R F H σ (η.set i none) (tms os vs ++ ((v, t) :: tmp)) := Ok.perm (List.perm_middle (l₁ := tms os vs)).symm (Ok.takeSlot o ht hv)
            obtain ⟨F', s1, o3, io, hl, hf⟩ := args_ok h1 o2 (p.map fun _ _ _ h => h.none)
            refine ⟨F', s1, ?_, ?_, by simp [hl], fun k t' hk hbk => ?_⟩
            · simp only [tmz, List.append_assoc, List.singleton_append]; exact o3
            · rw [IoV, if_pos hb]
              exact ⟨i, is1, rfl, hv, io⟩
            · cases k with
              | zero =>
                cases bs with
                | nil => simp at hb
                | cons b bs => simp at hb hbk; rw [hb] at hbk; cases hbk
              | succ k =>
                refine hf k t' (by simpa using hk) ?_
                cases bs with
                | nil => rfl
                | cons b bs => simpa using hbk
          · cases h
        · cases h
      · cases h
    · cases h
    · rename_i x _ _ hb
      split at h
      · rename_i t η1 hfr
        split at h
        · rename_i ts1 η2 is1 h1
          cases h
          obtain ⟨v, vs', rfl, o1, p0, p⟩ : ∃ v vs', vs = v :: vs' ∧ G.Ok R F H σ η (tms [x] [v] ++ (tms os vs' ++ tmp)) ∧ (∀ i p, x = .pl i p → PlW G.ca H σ η i p v) ∧ PlsW G H σ η os vs' := by
            cases x with
            | v u =>
              obtain ⟨v, vs, rfl, p⟩ := p
              simp only [tms] at o
              exact ⟨v, vs, rfl, by simpa [tms] using Ok.perm (perm_mid _ _ _) o, (fun _ _ e => by cases e), p⟩
            | pl i q =>
              obtain ⟨v, vs, rfl, hp, p⟩ := p
              simp only [tms] at o
              exact ⟨v, vs, rfl, by simpa [tms] using o, (fun _ _ e => by cases e; exact hp), p⟩
          obtain ⟨F1, s1, o2, vw, fz, keep⟩ := fre_ok o1 rfl p0 hfr
          have o3 : G.Ok R F1 H σ η1 (tms os vs' ++ ((v, t) :: tmp)) := Ok.perm (List.perm_middle (l₁ := tms os vs')).symm (Ok.push o2 vw fz)
          obtain ⟨F2, s2, o4, io, hl, hf⟩ := args_ok h1 o3 (p.map keep)
          refine ⟨F2, s1.trans s2, ?_, ?_, by simp [hl], fun k t' hk hbk => ?_⟩
          · simp only [tmz, List.append_assoc, List.singleton_append]; exact o4
          · rw [IoV, if_neg (by rw [hb]; exact Bool.false_ne_true)]
            exact io
          · cases k with
            | zero => simp at hk; subst hk; exact fz
            | succ k =>
              refine hf k t' (by simpa using hk) ?_
              cases bs with
              | nil => rfl
              | cons b bs => simpa using hbk
        · cases h
      · cases h
/-- all frozen -/
theorem tmz_views : ∀ {ts : List T} {vs : List V}, G.Ok R F H σ η (tmz ts vs ++ tmp) → ts.length = vs.length → fzs ts = true → G.Views F ts vs ∧ G.Ok R F H σ η tmp
  | [], [], o, _, _ => ⟨by simp [Views], by simpa [tmz] using o⟩
  | t :: ts, v :: vs, o, hl, hf => by
    simp only [fzs, Bool.and_eq_true] at hf
    simp only [tmz] at o
    have o1 := Ok.perm (perm_mid _ _ _) o
    obtain ⟨as, w⟩ := Ok.top o1
    obtain ⟨h1, h2⟩ := tmz_views (Ok.drop1 o1) (by simpa using hl) hf.2
    refine ⟨?_, h2⟩
    simp only [Views]
    exact ⟨v, vs, rfl, (Own.of_fz hf.1 w).2, h1⟩
  | [], _ :: _, _, h, _ => by simp at h
  | _ :: _, [], _, h, _ => by simp at h
theorem fzs_ix {ts : List T} (h : ∀ (k : Nat) t, ts[k]? = some t → t.fz = true) : fzs ts = true := fzs_of fun t m => by
  obtain ⟨k, hk⟩ := List.mem_iff_getElem?.mp m
  exact h k t hk
/-- arguments of which none is written -/
theorem args_fz {os : List Opd} {ts : List T} {η' : Env} {is : List Nat} {vs : List V} (h : args os [] η = some (ts, η', is)) (o : G.Ok R F H σ η (tms os vs ++ tmp)) (p : Pls G H σ η os vs) :
    ∃ F', Same F F' ∧ G.Ok R F' H σ η' tmp ∧ G.Views F' ts vs ∧ fzs ts = true := by
  obtain ⟨F', s, o', _, hl, hf⟩ := args_ok h o p.w
  have fz : fzs ts = true := fzs_ix fun k t hk => hf k t hk (by simp)
  obtain ⟨h1, h2⟩ := tmz_views o' hl fz
  exact ⟨F', s, h2, h1, fz⟩
end
end TV
/-! expressions: one rule a form -/
namespace TV
open PySem L2
abbrev Clo := Env → TV.R (Opd × Env)
abbrev BClo := Bool × Clo
section
variable {X : Cx} {G : Par} {W : WX} {C : Ctx} {R F H : Hp} {σ : St} {η : Env} {tmp : List (V × T)}
/-- the operands of a list of expressions -/
def clos (C : Ctx) (es : List CE) : List BClo := es.map fun e => (pu e, evE C e)
theorem clos_pu (C : Ctx) : ∀ es : List CE, (clos C es).all (·.1) = es.all pu
  | [] => rfl
  | e :: es => by simp [clos, Function.comp_def]
theorem evs_evL (C : Ctx) : ∀ (es : List CE) (η : Env), evs C es η = evL (clos C es) η
  | [], η => rfl
  | e :: es, η => by
    have ih : evs C es = evL (clos C es) := funext (evs_evL C es)
    simp only [evs, clos, List.map_cons, evL]
    have ih' : evs C es = evL (es.map fun e => (pu e, evE C e)) := ih
    rw [ih']
    have hp : (es.map fun e => (pu e, evE C e)).all (·.1) = es.all pu := clos_pu C es
    rw [hp]
def opsF (g : List T → Option T) (fs : List BClo) : Clo := fun η => (evL fs η).bind fun x => match drs x.2 x.1 with
  | some ts => (ofO (g ts)).bind fun r => .ok (.v r, x.2)
  | none => .err
theorem tms_mem {os : List Opd} {vs : List V} : ∀ x ∈ tms os vs, x ∈ tms os vs ++ tmp := fun x hx => by simp [hx]
/-- operands read, an answer -/
theorem ie_ops {g : List T → Option T} {fs : List BClo} {Q : VK} (h : IE G W false (opsF g fs) σ H Q) : IA G W fs σ H fun vs H1 => rF G.ca g vs H1 Q := by
  obtain ⟨R, F, η, tmp, o, h⟩ := h
  refine ⟨R, F, η, tmp, o, ?_⟩
  simp only [opsF] at h
  cases e : evL fs η with
  | err => rw [e] at h; exact h
  | exc c p η' => rw [e] at h; exact h
  | ok r =>
    obtain ⟨os, η1⟩ := r
    rw [e] at h
    intro F' H' vs s1 s2 o' pl
    simp only [TV.R.bind] at h
    cases hd : drs η1 os with
    | none => rw [hd] at h; exact False.elim h
    | some ts =>
      rw [hd] at h
      dsimp only at h
      cases hg : g ts with
      | none => rw [hg] at h; exact False.elim h
      | some w =>
        rw [hg] at h
        refine ⟨F', ts, w, o'.same, drs_cv o' tms_mem pl hd, hg, Ok.ret (Ok.drop o') fun F'' H'' v s3 o'' => ?_⟩
        exact h F'' H'' v (s1.trans s3) (fun z => by cases z) o''
def g2 (g : T → T → Option T) : List T → Option T
  | [a, b] => g a b
  | _ => none
def g1 (g : T → Option T) : List T → Option T
  | [a] => g a
  | _ => none
theorem rF_two {g : T → T → Option T} {vs : List V} {Q : VK} (h : rF G.ca (g2 g) vs H Q) : ∃ x y, vs = [x, y] ∧ r2F G.ca g x y H Q := by
  obtain ⟨F, ts, r, e, c, hg, q⟩ := h
  unfold g2 at hg
  split at hg
  · obtain ⟨v, v', rfl, c1, c2⟩ := cvs2 c
    exact ⟨v, v', rfl, F, _, _, r, e, c1, c2, hg, q⟩
  · cases hg
theorem rF_one {g : T → Option T} {vs : List V} {Q : VK} (h : rF G.ca (g1 g) vs H Q) : ∃ x, vs = [x] ∧ r1F G.ca g x H Q := by
  obtain ⟨F, ts, r, e, c, hg, q⟩ := h
  unfold g1 at hg
  split at hg
  · obtain ⟨v, rfl, c1⟩ := cvs1 c
    exact ⟨v, rfl, F, _, r, e, c1, hg, q⟩
  · cases hg
theorem evL_two {f g : BClo} {α : Type} (k : T → T → TV.R α) (η : Env) (kk : Env → T → T → TV.R α) : True := trivial
/-! ### names, constants -/
theorem pe_slotI {i : Nat} {x : Str} {pos : Pos} (hN : X.N[i]? = some x) (hv : Vis X.env.scope x) (hd : (x == ("__debug__" : Str)) = false) (hcd : (x == ("__classdict__" : Str)) = false) : PE X (.Name x pos) (IE G W true (evE C (.slot i))) :=
  pe_by (pe_var hN hv hd hcd) fun σ H Q h => by
    obtain ⟨R, F, η, tmp, o, h⟩ := h
    simp only [evE] at h
    split at h
    · rename_i t ht
      obtain ⟨v, as, hs, w⟩ := Ok.slot o ht
      split at h
      · exact ⟨v, hs, h F H v (Same.refl F) (fun _ => Same.refl H) o hs⟩
      · rename_i hf
        have fz := w.fz_of (by simpa using hf)
        exact ⟨v, hs, h F H v (Same.refl F) (fun _ => Same.refl H) (Ok.push o (Own.of_fz fz w).2 fz)⟩
    · exact False.elim h
theorem ie_cst {t : T} {v : V} {Q : VK} (hf : t.fz = true) (hv : ∀ F, View G.ca F t v) (h : IE G W true (evE C (.cst t)) σ H Q) : Q v H := by
  obtain ⟨R, F, η, tmp, o, h⟩ := h
  simp only [evE] at h
  exact h F H v (Same.refl F) (fun _ => Same.refl H) (Ok.push o (hv F) hf)
theorem pe_intI {i j pos} : PE X (.Constant (.int i) j pos) (IE G W true (evE C (.cst (.int i)))) := pe_by pe_int fun _ _ _ h => ie_cst (v := .int i) rfl (fun _ => by simp [View]) h
theorem pe_blI {b j pos} : PE X (.Constant (.bool b) j pos) (IE G W true (evE C (.cst (.bl b)))) := pe_by pe_bl fun _ _ _ h => ie_cst (v := .bl b) rfl (fun _ => by simp [View]) h
theorem pe_nonI {j pos} : PE X (.Constant .none j pos) (IE G W true (evE C (.cst .non))) := pe_by pe_non fun _ _ _ h => ie_cst (v := .non) rfl (fun _ => by simp [View]) h
theorem pe_strI {x j pos} : PE X (.Constant (.str x) j pos) (IE G W true (evE C (.cst (.str x)))) := pe_by pe_str fun _ _ _ h => ie_cst (v := .str x) rfl (fun _ => by simp [View]) h
theorem pe_cstG {t : T} {v : V} {e : Expr} {te : TE} (h : PE X e te) (k : ∀ σ H Q, Q v H → te σ H Q) (hf : t.fz = true) (hv : ∀ F, View G.ca F t v) : PE X e (IE G W true (evE C (.cst t))) := pe_by h fun σ H Q q => k σ H Q (ie_cst hf hv q)
/-! ### displays -/
theorem Pls.len {os : List Opd} {vs : List V} (h : Pls G H σ η os vs) : vs.length = os.length := h.w.len
theorem evL_len : ∀ {fs : List BClo} {η η' : Env} {os : List Opd}, evL fs η = .ok (os, η') → os.length = fs.length
  | [], η, η', os, h => by simp only [evL] at h; cases h; rfl
  | f :: fs, η, η', os, h => by
    simp only [evL] at h
    cases e : f.2 η with
    | err => rw [e] at h; cases h
    | exc c p η' => rw [e] at h; cases h
    | ok r =>
      rw [e] at h
      simp only [TV.R.bind] at h
      cases e2 : evL fs r.2 with
      | err => rw [e2] at h; cases h
      | exc c p η' => rw [e2] at h; cases h
      | ok r2 =>
        rw [e2] at h
        simp only at h
        split at h
        · cases h
          rw [List.length_cons, List.length_cons, evL_len e2]
        · cases h
theorem ie_disp {fs : List BClo} {Q : VK} {mk : List T → T} {f : Clo} (hf : ∀ η, f η = (evL fs η).bind fun x => match args x.1 [] x.2 with
    | some (ts, η', _) => .ok (.v (mk ts), η')
    | none => .err) (hl : fs.length ≤ 1000) (h : IE G W false f σ H Q) : IA G W fs σ H fun vs H1 => vs.length ≤ sizeLine ∧ ∃ R F η tmp ts, G.Ok R F H1 σ η tmp ∧ G.Views F ts vs ∧ fzs ts = true ∧ ∀ F' H' v, Same F F' → G.Ok R F' H' σ η ((v, mk ts) :: tmp) → Q v H' := by
  obtain ⟨R, F, η, tmp, o, h⟩ := h
  refine ⟨R, F, η, tmp, o, ?_⟩
  rw [hf] at h
  cases e : evL fs η with
  | err => rw [e] at h; exact h
  | exc c p η' => rw [e] at h; exact h
  | ok r =>
    obtain ⟨os, η1⟩ := r
    rw [e] at h
    intro F' H' vs s1 s2 o' pl
    simp only [TV.R.bind] at h
    split at h
    · rename_i ts η2 is ha
      obtain ⟨F2, s3, o2, hv, hz⟩ := args_fz ha o' pl
      refine ⟨?_, R, F2, η2, tmp, ts, o2, hv, hz, fun F3 H3 v s4 o3 => h F3 H3 v ((s1.trans s3).trans s4) (fun z => by cases z) o3⟩
      rw [pl.len, evL_len e]
      exact Nat.le_trans hl (by rw [sizeLine_eq]; decide)
    · exact False.elim h
theorem pe_tupI {es : List Expr} {ces : List CE} {x1 pos} (h : PA X es (IA G W (clos C ces))) (hl : ces.length ≤ 1000) : PE X (.Tuple es x1 pos) (IE G W false (evE C (.tup ces))) :=
  pe_by (pe_tup h) fun σ H Q q => ia_mono (ie_disp (mk := T.tup) (fun η => by simp only [evE, evs_evL] <;> rfl) (by simpa [clos] using hl) q) fun vs H1 ⟨h1, R, F, η, tmp, ts, o, hv, hz, k⟩ => ⟨h1, fun p hp => by
    obtain ⟨sf, o'⟩ := Ok.newTup o hp hv hz
    exact k _ _ _ sf o'⟩
theorem pe_lstI {es : List Expr} {ces : List CE} {pos} (h : PA X es (IA G W (clos C ces))) (hl : ces.length ≤ 1000) : PE X (.List es pos) (IE G W false (evE C (.lst ces))) :=
  pe_by (pe_lst h) fun σ H Q q => ia_mono (ie_disp (mk := T.lst true) (fun η => by simp only [evE, evs_evL] <;> rfl) (by simpa [clos] using hl) q) fun vs H1 ⟨h1, R, F, η, tmp, ts, o, hv, hz, k⟩ => ⟨h1, fun p hp => k _ _ _ (Same.refl F) (Ok.newLst o hp hv hz)⟩
theorem pe_dicI {pos} : PE X (.Dict [] [] pos) (IE G W false (evE C .dic0)) :=
  pe_by pe_dnewK fun σ H Q h => by
    obtain ⟨R, F, η, tmp, o, h⟩ := h
    simp only [evE] at h
    intro p hp
    refine h F _ (.ref p) (Same.refl F) (fun z => by cases z) (Ok.newOwn o (as := [p]) (same_new hp) ?_ (fun a => by simp only [List.count_cons, List.count_nil]; split <;> omega) (by simpa using hp))
    simp only [Own]
    exact ⟨p, [], [], rfl, rfl, .inl ⟨[], rfl, rfl, by rw [upd_same]; rfl⟩, by simp [Owns]⟩
/-! ### operators -/
theorem two_eq {g : T → T → Option T} {f1 f2 : BClo} (η : Env) : (opsF (g2 g) [f1, f2]) η = (evL [f1, f2] η).bind fun x => match drs x.2 x.1 with
    | some [s, t] => (ofO (g s t)).bind fun r => .ok (.v r, x.2)
    | _ => .err := by
  simp only [opsF]
  congr 1
  funext x
  cases drs x.2 x.1 with
  | none => rfl
  | some ts => match ts with
    | [] => rfl
    | [_] => rfl
    | [_, _] => rfl
    | _ :: _ :: _ :: _ => rfl
theorem ie_eq {b : Bool} {f f' : Clo} {Q : VK} (e : ∀ η, f η = f' η) (h : IE G W b f σ H Q) : IE G W b f' σ H Q := by
  have : f = f' := funext e
  rw [← this]; exact h
theorem pe_binI {op : Operator} {a b : Expr} {ca cb : CE} {pos} (ha : PE X a (IE G W (pu ca) (evE C ca))) (hb : PE X b (IE G W (pu cb) (evE C cb))) : PE X (.BinOp a op b pos) (IE G W false (evE C (.bin op ca cb))) :=
  pe_by (pe_op (op_bin (ca := G.ca) op) ha hb) fun σ H Q h => ia_two (f := (pu ca, evE C ca)) (g := (pu cb, evE C cb)) (ia_mono (ie_ops (g := g2 (binT op)) (ie_eq (fun η => by rw [two_eq]; simp only [evE] <;> rfl) h)) fun vs H1 h => rF_two h)
theorem pe_cmpI {k : Nat} (hr : Room k X.A) {op : CmpOp} {a b : Expr} {ca cb : CE} {pos} (ha : PE X a (IE G W (pu ca) (evE C ca))) (hb : PE X b (IE G W (pu cb) (evE C cb))) (hm : behindInMarks op b = false) : PE X (.Compare a [op] [b] pos) (IE G W false (evE C (.cmp op ca cb))) :=
  pe_by (pe_cmpR (op_cmp (ca := G.ca) hr op) ha hb hm) fun σ H Q h => ia_two (f := (pu ca, evE C ca)) (g := (pu cb, evE C cb)) (ia_mono (ie_ops (g := g2 (cmpT op)) (ie_eq (fun η => by rw [two_eq]; simp only [evE] <;> rfl) h)) fun vs H1 h => rF_two h)
theorem pe_unI {op : UnaryOp} {a : Expr} {ca : CE} {pos} (ha : PE X a (IE G W (pu ca) (evE C ca))) : PE X (.UnaryOp op a pos) (IE G W false (evE C (.un op ca))) :=
  pe_by (pe_un (op_un (ca := G.ca) op) ha) fun σ H Q h => ia_one (ia_mono (fs := [(pu ca, evE C ca)]) (ie_ops (g := g1 (unT op)) (ie_eq (fun η => by
    simp only [evE, opsF, evL]
    cases evE C ca η with
    | err => rfl
    | exc c p η' => rfl
    | ok r =>
      obtain ⟨x, η1⟩ := r
      simp only [TV.R.bind, List.all_nil]
      have hs : stay x true η1 η1 = true := by
        unfold stay
        split
        · simp [beqE_refl]
        · rfl
      simp only [hs, if_true, drs]
      cases dr η1 x with
      | none => rfl
      | some t => rfl) h)) fun vs H1 h => rF_one h)
end
end TV
/-! expressions: tests, and, or, chains, attributes, built-in functions -/
namespace TV
open PySem L2
section
variable {X : Cx} {G : Par} {W : WX} {C : Ctx} {R F H : Hp} {σ : St} {η : Env} {tmp : List (V × T)}
/-! ### tests -/
def EvT (G : Par) (W : WX) (R F H : Hp) (σ : St) (tmp : List (V × T)) (r : TV.R (Opd × Env)) (Q : Bool → Hp → Prop) : Prop :=
  match r with
  | .ok (x, η') => (match truO η' x with
    | some k => ∀ F' H', Same F F' → G.Ok R F' H' σ η' tmp → Q k H'
    | none => False)
  | .exc c p η' => ∀ F' H' d, Same F F' → G.Ok R F' H' σ η' tmp → Exh G F' H' c p d → W (.ref (G.ca c)) d σ H'
  | .err => False
def IB (G : Par) (W : WX) (f : Clo) : TT := fun σ H Q => ∃ R F η tmp, G.Ok R F H σ η tmp ∧ EvT G W R F H σ tmp (f η) Q
theorem own_tru {K : PySem.W.Frag} {t : T} {v : V} {as : List Addr} {k : Bool} (w : Own G.ca F H t v as) (e : Same F H) (h : t.truthy = some k) : TruV K v H k := by
  cases t with
  | non => simp only [Own] at w; obtain ⟨_, rfl⟩ := w; cases h; exact rfl
  | bl b => simp only [Own] at w; obtain ⟨_, rfl⟩ := w; cases h; exact rfl
  | int i => simp only [Own] at w; obtain ⟨_, rfl⟩ := w; cases h; exact rfl
  | str s => cases h
  | tup ts =>
    simp only [Own, View] at w
    obtain ⟨_, _, a, vs, rfl, x, y⟩ := w
    cases h
    refine .inr (.inl ⟨vs, .inl (.inl (e _ _ x)), ?_⟩)
    have := y.length
    cases ts <;> cases vs <;> simp_all
  | lst o ts =>
    cases o with
    | true =>
      simp only [Own] at w
      obtain ⟨a, vs, r, rfl, _, x, y⟩ := w
      cases h
      refine .inl ⟨vs, .inl (.inl x), ?_⟩
      have := y.length
      cases ts <;> cases vs <;> simp_all
    | false =>
      simp only [Own, View] at w
      obtain ⟨_, _, a, vs, rfl, x, y⟩ := w
      cases h
      refine .inl ⟨vs, .inl (Same.rd e x), ?_⟩
      have := y.length
      cases ts <;> cases vs <;> simp_all
  | dic _ _ _ => cases h
  | obj _ _ _ _ => cases h
/-- a test by its value's truth -/
theorem ie_tru {K : PySem.W.Frag} {b : Bool} {f : Clo} {Q : Bool → Hp → Prop} (h : IB G W f σ H Q) : IE G W b f σ H fun x H1 => ∃ k, TruV K x H1 k ∧ Q k H1 := by
  obtain ⟨R, F, η, tmp, o, h⟩ := h
  refine ⟨R, F, η, tmp, o, ?_⟩
  cases e : f η with
  | err => rw [e] at h; exact h
  | exc c p η' => rw [e] at h; exact h
  | ok r =>
    obtain ⟨x, η1⟩ := r
    rw [e] at h
    simp only [EvT] at h
    cases ht : truO η1 x with
    | none => rw [ht] at h; exact False.elim h
    | some k =>
      rw [ht] at h
      cases x with
      | v t =>
        intro F' H' v s1 s2 o'
        obtain ⟨as, w⟩ := Ok.top o'
        exact ⟨k, own_tru w o'.same ht, h F' H' s1 (Ok.drop1 o')⟩
      | pl i p =>
        intro F' H' v s1 s2 o' hp
        simp only [truO] at ht
        split at ht
        · rename_i n hn
          obtain ⟨u, an, ar, at', hp', _, w, _⟩ := Ok.focus o' hn
          obtain rfl := hp.inj hp'
          exact ⟨k, own_tru w o'.same ht, h F' H' s1 o'⟩
        · cases ht
theorem pt_leafI {e : Expr} {b : Bool} {f : Clo} (he : PE X e (IE G W b f)) (hi : ∀ whole, isTrue e X.env whole = (do let v ← whole; standAt e.pos; holding [v] (truthy v))) : PT X e (IB G W f) :=
  pt_by (pt_truth he hi) fun σ H Q h => ie_tru h
theorem it_bl {b : Bool} {f : Clo} {Q : Bool → Hp → Prop} (h : IB G W f σ H Q) (hb : ∀ η x η', f η = .ok (x, η') → ∃ k, x = .v (.bl k)) : IE G W b f σ H fun x H1 => ∃ k, x = .bl k ∧ Q k H1 := by
  obtain ⟨R, F, η, tmp, o, h⟩ := h
  refine ⟨R, F, η, tmp, o, ?_⟩
  cases e : f η with
  | err => rw [e] at h; exact h
  | exc c p η' => rw [e] at h; exact h
  | ok r =>
    obtain ⟨x, η1⟩ := r
    obtain ⟨k, rfl⟩ := hb η x η1 e
    rw [e] at h
    intro F' H' v s1 s2 o'
    obtain ⟨as, w⟩ := Ok.top o'
    simp only [Own] at w
    exact ⟨k, w.2, h F' H' s1 (Ok.drop1 o')⟩
theorem cmpT_bl {op : CmpOp} {a b t : T} (h : cmpT op a b = some t) : ∃ k, t = .bl k := by
  unfold cmpT at h
  split at h <;> (try split at h) <;> (try split at h) <;> first | (cases h; exact ⟨_, rfl⟩) | cases h
theorem opsF_ok {g : List T → Option T} {fs : List BClo} {η η' : Env} {x : Opd} (h : opsF g fs η = .ok (x, η')) : ∃ os ts r, evL fs η = .ok (os, η') ∧ drs η' os = some ts ∧ g ts = some r ∧ x = .v r := by
  simp only [opsF] at h
  cases e : evL fs η with
  | err => rw [e] at h; cases h
  | exc c p η' => rw [e] at h; cases h
  | ok r =>
    rw [e] at h
    simp only [TV.R.bind] at h
    split at h
    · rename_i ts hd
      cases hg : g ts with
      | none => rw [hg] at h; cases h
      | some w =>
        rw [hg] at h
        simp only [ofO] at h
        cases h
        exact ⟨r.1, ts, w, rfl, hd, hg, rfl⟩
    · cases h
theorem cmp_ops {op : CmpOp} {ca cb : CE} (η : Env) : evE C (.cmp op ca cb) η = opsF (g2 (cmpT op)) [(pu ca, evE C ca), (pu cb, evE C cb)] η := by
  rw [two_eq]; simp only [evE] <;> rfl
theorem pt_cmpI {k : Nat} (hr : Room k X.A) {op : CmpOp} {a b : Expr} {ca cb : CE} {pos} (ha : PE X a (IE G W (pu ca) (evE C ca))) (hb : PE X b (IE G W (pu cb) (evE C cb))) (hm : behindInMarks op b = false) : PT X (.Compare a [op] [b] pos) (IB G W (evE C (.cmp op ca cb))) :=
  pt_by (pt_cmpR (op_cmp (ca := G.ca) hr op) ha hb hm) fun σ H Q h => by
    refine ia_two (f := (pu ca, evE C ca)) (g := (pu cb, evE C cb)) (ia_mono (ie_ops (g := g2 (cmpT op)) (ie_eq (fun η => cmp_ops η) (it_bl h fun η x η' e => ?_))) fun vs H1 h => rF_two h)
    rw [cmp_ops] at e
    obtain ⟨os, ts, r, _, _, hg, rfl⟩ := opsF_ok e
    unfold g2 at hg
    split at hg
    · obtain ⟨k, rfl⟩ := cmpT_bl hg
      exact ⟨k, rfl⟩
    · cases hg
theorem it_mono {f : Clo} {Q Q' : Bool → Hp → Prop} (h : IB G W f σ H Q) (k : ∀ b H', Q b H' → Q' b H') : IB G W f σ H Q' := by
  obtain ⟨R, F, η, tmp, o, h⟩ := h
  refine ⟨R, F, η, tmp, o, ?_⟩
  cases e : f η with
  | err => rw [e] at h; exact h
  | exc c p η' => rw [e] at h; exact h
  | ok r =>
    obtain ⟨x, η1⟩ := r
    rw [e] at h
    simp only [EvT] at h ⊢
    cases ht : truO η1 x with
    | none => rw [ht] at h; exact False.elim h
    | some b => rw [ht] at h; exact fun F' H' a c => k _ _ (h F' H' a c)
/-- behind a test -/
def iteF (f : Clo) (a b : Clo) : Clo := fun η => (f η).bind fun x => match truO x.2 x.1 with
  | some true => a x.2
  | some false => b x.2
  | none => .err
theorem it_ite {f a b : Clo} {Q : Bool → Hp → Prop} (h : IB G W (iteF f a b) σ H Q) : IB G W f σ H fun k H1 => if k = true then IB G W a σ H1 Q else IB G W b σ H1 Q := by
  obtain ⟨R, F, η, tmp, o, h⟩ := h
  refine ⟨R, F, η, tmp, o, ?_⟩
  simp only [iteF] at h
  cases e : f η with
  | err => rw [e] at h; exact h
  | exc c p η' => rw [e] at h; exact h
  | ok r =>
    obtain ⟨x, η1⟩ := r
    rw [e] at h
    simp only [EvT, TV.R.bind] at h ⊢
    have go : ∀ (g : Clo) (F' H' : Hp), Same F F' → G.Ok R F' H' σ η1 tmp → EvT G W R F H σ tmp (g η1) Q → IB G W g σ H' Q := fun g F' H' s1 o' h => by
      refine ⟨R, F', η1, tmp, o', ?_⟩
      cases e2 : g η1 with
      | err => rw [e2] at h; exact h
      | exc c p η' => rw [e2] at h; exact fun F2 H2 d s2 o2 ex => h F2 H2 d (s1.trans s2) o2 ex
      | ok r2 =>
        rw [e2] at h
        simp only [EvT] at h ⊢
        cases ht : truO r2.2 r2.1 with
        | none => rw [ht] at h; exact False.elim h
        | some b => rw [ht] at h; exact fun F2 H2 s2 o2 => h F2 H2 (s1.trans s2) o2
    cases ht : truO η1 x with
    | none => rw [ht] at h; exact False.elim h
    | some k =>
      rw [ht] at h
      cases k with
      | true => exact fun F' H' s1 o' => by rw [if_pos rfl]; exact go a F' H' s1 o' h
      | false => exact fun F' H' s1 o' => by rw [if_neg Bool.false_ne_true]; exact go b F' H' s1 o' h
theorem ie_ite {f a b : Clo} {Q : VK} {ba bb : Bool} (h : IE G W false (iteF f a b) σ H Q) : IB G W f σ H fun k H1 => if k = true then IE G W ba a σ H1 Q else IE G W bb b σ H1 Q := by
  obtain ⟨R, F, η, tmp, o, h⟩ := h
  refine ⟨R, F, η, tmp, o, ?_⟩
  simp only [iteF] at h
  cases e : f η with
  | err => rw [e] at h; exact h
  | exc c p η' => rw [e] at h; exact h
  | ok r =>
    obtain ⟨x, η1⟩ := r
    rw [e] at h
    simp only [EvT, TV.R.bind] at h ⊢
    have go : ∀ (g : Clo) (bg : Bool) (F' H' : Hp), Same F F' → G.Ok R F' H' σ η1 tmp → EvP G W false R F H σ tmp (g η1) Q → IE G W bg g σ H' Q := fun g bg F' H' s1 o' h => by
      refine ⟨R, F', η1, tmp, o', ?_⟩
      cases e2 : g η1 with
      | err => rw [e2] at h; exact h
      | exc c p η' => rw [e2] at h; exact fun F2 H2 d s2 o2 ex => h F2 H2 d (s1.trans s2) o2 ex
      | ok r2 =>
        obtain ⟨y, η2⟩ := r2
        rw [e2] at h
        cases y with
        | v t => exact fun F2 H2 v s2 _ o2 => h F2 H2 v (s1.trans s2) (fun z => by cases z) o2
        | pl i p => exact fun F2 H2 v s2 _ o2 hp => h F2 H2 v (s1.trans s2) (fun z => by cases z) o2 hp
    cases ht : truO η1 x with
    | none => rw [ht] at h; exact False.elim h
    | some k =>
      rw [ht] at h
      cases k with
      | true => exact fun F' H' s1 o' => by rw [if_pos rfl]; exact go a ba F' H' s1 o' h
      | false => exact fun F' H' s1 o' => by rw [if_neg Bool.false_ne_true]; exact go b bb F' H' s1 o' h
def blF (k : Bool) : Clo := fun η => .ok (.v (.bl k), η)
theorem it_blF {k : Bool} {Q : Bool → Hp → Prop} (h : IB G W (blF k) σ H Q) : Q k H := by
  obtain ⟨R, F, η, tmp, o, h⟩ := h
  exact h F H (Same.refl F) o
theorem ie_blF {k b : Bool} {Q : VK} (h : IE G W b (blF k) σ H Q) : Q (.bl k) H := by
  obtain ⟨R, F, η, tmp, o, h⟩ := h
  exact h F H (.bl k) (Same.refl F) (fun _ => Same.refl H) (Ok.push o (by simp [View]) rfl)
theorem it_eq {f f' : Clo} {Q : Bool → Hp → Prop} (e : ∀ η, f η = f' η) (h : IB G W f σ H Q) : IB G W f' σ H Q := by
  have : f = f' := funext e
  rw [← this]; exact h
theorem pw_andI {a b : Expr} {rest : List Expr} {pos} {fa fb : Clo} (ha : PT X a (IB G W fa)) (hb : PW X (.BoolOp .And (b :: rest) pos) (IB G W fb)) : PW X (.BoolOp .And (a :: b :: rest) pos) (IB G W (iteF fa fb (blF false))) := by
  refine ⟨fun whole pins s σ H Q I h => (pw_and ha hb).run whole pins s σ H Q I ?_⟩
  refine it_mono (it_ite h) fun k H1 q => ?_
  cases k with
  | true => rw [if_pos rfl] at q ⊢; exact q
  | false => rw [if_neg Bool.false_ne_true] at q ⊢; exact it_blF q
theorem pw_orI {a b : Expr} {rest : List Expr} {pos} {fa fb : Clo} (ha : PT X a (IB G W fa)) (hb : PW X (.BoolOp .Or (b :: rest) pos) (IB G W fb)) : PW X (.BoolOp .Or (a :: b :: rest) pos) (IB G W (iteF fa (blF true) fb)) := by
  refine ⟨fun whole pins s σ H Q I h => (pw_or ha hb).run whole pins s σ H Q I ?_⟩
  refine it_mono (it_ite h) fun k H1 q => ?_
  cases k with
  | true => rw [if_pos rfl] at q ⊢; exact it_blF q
  | false => rw [if_neg Bool.false_ne_true] at q ⊢; exact q
theorem pw_by {e : Expr} {te te' : TT} (h : PW X e te) (k : ∀ σ H Q, te' σ H Q → te σ H Q) : PW X e te' :=
  ⟨fun whole pins s σ H Q I q => h.run whole pins s σ H Q I (k σ H Q q)⟩
theorem pt_notI {a : Expr} {pos} {fa : Clo} (ha : PT X a (IB G W fa)) : PT X (.UnaryOp .Not a pos) (IB G W (iteF fa (blF false) (blF true))) :=
  pt_by (pt_not ha) fun σ H Q h => it_mono (it_ite h) fun k H1 q => by
    cases k with
    | true => rw [if_pos rfl] at q; exact it_blF q
    | false => rw [if_neg Bool.false_ne_true] at q; exact it_blF q
theorem tand_eq {a b : CE} (η : Env) : evE C (.tand a b) η = iteF (evE C a) (evE C b) (blF false) η := by
  simp only [evE, iteF, blF] <;> rfl
theorem tor_eq {a b : CE} (η : Env) : evE C (.tor a b) η = iteF (evE C a) (blF true) (evE C b) η := by
  simp only [evE, iteF, blF] <;> rfl
theorem tnot_eq {a : CE} (η : Env) : evE C (.tnot a) η = iteF (evE C a) (blF false) (blF true) η := by
  simp only [evE, iteF, blF]
  congr 1
  funext x
  cases truO x.2 x.1 with
  | none => rfl
  | some k => cases k <;> rfl
theorem ife_eq {t a b : CE} (η : Env) : evE C (.ife t a b) η = iteF (evE C t) (evE C a) (evE C b) η := by
  simp only [evE, iteF] <;> rfl
theorem pe_ifeI {t a b : Expr} {ct ca cb : CE} {pos} (ht : PT X t (IB G W (evE C ct))) (ha : PE X a (IE G W (pu ca) (evE C ca))) (hb : PE X b (IE G W (pu cb) (evE C cb))) : PE X (.IfExp t a b pos) (IE G W false (evE C (.ife ct ca cb))) :=
  pe_by (pe_ifExp ht ha hb) fun σ H Q h => it_mono (ie_ite (ba := pu ca) (bb := pu cb) (ie_eq (fun η => ife_eq η) h)) fun k H1 q => q
/-! ### and, or, not of truth values as values -/
theorem ie_bool {f : Clo} {a b : Clo} {Q : VK} {bf ba bb : Bool} (h : IE G W false (fun η => (f η).bind fun x => match x.1 with
    | .v (.bl true) => a x.2
    | .v (.bl false) => b x.2
    | _ => .err) σ H Q) : IE G W bf f σ H fun x H1 => ∃ k, x = .bl k ∧ if k = true then IE G W ba a σ H1 Q else IE G W bb b σ H1 Q := by
  obtain ⟨R, F, η, tmp, o, h⟩ := h
  refine ⟨R, F, η, tmp, o, ?_⟩
  dsimp only at h
  cases e : f η with
  | err => rw [e] at h; exact h
  | exc c p η' => rw [e] at h; exact h
  | ok r =>
    obtain ⟨x, η1⟩ := r
    rw [e] at h
    simp only [TV.R.bind] at h
    have go : ∀ (g : Clo) (bg : Bool) (F' H' : Hp), Same F F' → G.Ok R F' H' σ η1 tmp → EvP G W false R F H σ tmp (g η1) Q → IE G W bg g σ H' Q := fun g bg F' H' s1 o' h => by
      refine ⟨R, F', η1, tmp, o', ?_⟩
      cases e2 : g η1 with
      | err => rw [e2] at h; exact h
      | exc c p η' => rw [e2] at h; exact fun F2 H2 d s2 o2 ex => h F2 H2 d (s1.trans s2) o2 ex
      | ok r2 =>
        obtain ⟨y, η2⟩ := r2
        rw [e2] at h
        cases y with
        | v t => exact fun F2 H2 v s2 _ o2 => h F2 H2 v (s1.trans s2) (fun z => by cases z) o2
        | pl i p => exact fun F2 H2 v s2 _ o2 hp => h F2 H2 v (s1.trans s2) (fun z => by cases z) o2 hp
    split at h
    · intro F' H' v s1 s2 o'
      obtain ⟨as, w⟩ := Ok.top o'
      simp only [Own] at w
      exact ⟨true, w.2, by rw [if_pos rfl]; exact go a ba F' H' s1 (Ok.drop1 o') h⟩
    · intro F' H' v s1 s2 o'
      obtain ⟨as, w⟩ := Ok.top o'
      simp only [Own] at w
      exact ⟨false, w.2, by rw [if_neg Bool.false_ne_true]; exact go b bb F' H' s1 (Ok.drop1 o') h⟩
    · exact False.elim h
theorem pe_andI {a b : Expr} {rest : List Expr} {pos} {ca cb : CE} (ha : PE X a (IE G W (pu ca) (evE C ca))) (hb : PE X (.BoolOp .And (b :: rest) pos) (IE G W (pu cb) (evE C cb))) : PE X (.BoolOp .And (a :: b :: rest) pos) (IE G W false (evE C (.and_ ca cb))) :=
  pe_by (pe_and ha hb) fun σ H Q h => ie_mono (ie_bool (a := evE C cb) (b := blF false) (bf := pu ca) (ba := pu cb) (bb := false) (ie_eq (fun η => by simp only [evE, blF] <;> rfl) h)) fun x H1 ⟨k, e, q⟩ => ⟨k, e, by
    cases k with
    | true => rw [if_pos rfl] at q ⊢; exact q
    | false => rw [if_neg Bool.false_ne_true] at q ⊢; exact ie_blF q⟩
theorem pe_orI {a b : Expr} {rest : List Expr} {pos} {ca cb : CE} (ha : PE X a (IE G W (pu ca) (evE C ca))) (hb : PE X (.BoolOp .Or (b :: rest) pos) (IE G W (pu cb) (evE C cb))) : PE X (.BoolOp .Or (a :: b :: rest) pos) (IE G W false (evE C (.or_ ca cb))) :=
  pe_by (pe_or ha hb) fun σ H Q h => ie_mono (ie_bool (a := blF true) (b := evE C cb) (bf := pu ca) (ba := false) (bb := pu cb) (ie_eq (fun η => by simp only [evE, blF] <;> rfl) h)) fun x H1 ⟨k, e, q⟩ => ⟨k, e, by
    cases k with
    | true => rw [if_pos rfl] at q ⊢; exact ie_blF q
    | false => rw [if_neg Bool.false_ne_true] at q ⊢; exact q⟩
theorem pe_notI {a : Expr} {pos} {ca : CE} (ha : PE X a (IE G W (pu ca) (evE C ca))) : PE X (.UnaryOp .Not a pos) (IE G W false (evE C (.not_ ca))) :=
  pe_by (pe_not ha) fun σ H Q h => ie_mono (ie_bool (a := blF false) (b := blF true) (bf := pu ca) (ba := false) (bb := false) (ie_eq (fun η => by
    simp only [evE, blF]
    congr 1
    funext x
    obtain ⟨o, η1⟩ := x
    cases o with
    | pl i p => rfl
    | v t => cases t with
      | bl k => cases k <;> rfl
      | _ => rfl) h)) fun x H1 ⟨k, e, q⟩ => ⟨k, e, by
    cases k with
    | true => rw [if_pos rfl] at q; exact ie_blF q
    | false => rw [if_neg Bool.false_ne_true] at q; exact ie_blF q⟩
end
end TV
/-! expressions: chains, attributes, built-in functions, isinstance, items -/
namespace TV
open PySem L2
section
variable {X : Cx} {G : Par} {W : WX} {C : Ctx} {R F H : Hp} {σ : St} {η : Env} {tmp : List (V × T)}
/-! ### a < b < c -/
theorem chain_ie {o1 o2 : CmpOp} {ca cb cc : CE} {Q : VK} (h : IE G W false (evE C (.chain o1 o2 ca cb cc)) σ H Q) :
    IA G W [(pu ca, evE C ca), (pu cb, evE C cb)] σ H fun vs H2 => ∃ x y, vs = [x, y] ∧ r2F G.ca (cmpT o1) x y H2 fun z H3 => ∃ k, z = .bl k ∧
      (if k = true then IE G W (pu cc) (evE C cc) σ H3 fun w' H4 => r2F G.ca (cmpT o2) y w' H4 Q else Q (.bl false) H3) := by
  obtain ⟨R, F, η, tmp, o, h⟩ := h
  refine ⟨R, F, η, tmp, o, ?_⟩
  simp only [evE] at h
  cases e : evL [(pu ca, evE C ca), (pu cb, evE C cb)] η with
  | err => rw [e] at h; exact h
  | exc c p η' => rw [e] at h; exact h
  | ok r =>
    obtain ⟨os, η1⟩ := r
    rw [e] at h
    intro F' H' vs s1 s2 o' pl
    simp only [TV.R.bind] at h
    split at h
    · rename_i s t hd
      have cv := drs_cv o' tms_mem pl hd
      obtain ⟨x, y, rfl, cx, cy⟩ := cvs2 cv
      refine ⟨x, y, rfl, ?_⟩
      have od := Ok.drop o'
      split at h
      · rename_i hc
        refine ⟨F', s, t, _, o'.same, cx, cy, hc, Ok.ret od fun F2 H2 v s3 oo2 => ?_⟩
        obtain ⟨as, w⟩ := Ok.top oo2
        simp only [Own] at w
        refine ⟨true, w.2, ?_⟩
        rw [if_pos rfl]
        have o3 := Ok.drop1 oo2
        refine ⟨R, F2, η1, tmp, o3, ?_⟩
        cases e2 : evE C cc η1 with
        | err => rw [e2] at h; exact h
        | exc c p η' => rw [e2] at h; exact fun F3 H3 d s4 o4 ex => h F3 H3 d ((s1.trans s3).trans s4) o4 ex
        | ok r2 =>
          obtain ⟨z, η2⟩ := r2
          rw [e2] at h
          simp only at h
          have fin : ∀ (F3 H3 : Hp) (v : V) (l : List (V × T)), Same F2 F3 → G.Ok R F3 H3 σ η2 (l ++ tmp) → (∀ u, dr η2 z = some u → CV G.ca F3 H3 u v) → r2F G.ca (cmpT o2) y v H3 Q := fun F3 H3 v l s4 o4 hcv => by
            cases hdr : dr η2 z with
            | none => rw [hdr] at h; exact False.elim h
            | some u =>
              rw [hdr] at h
              simp only at h
              split at h
              · rename_i i
                cases hg : cmpT o2 (.int i) u with
                | none => rw [hg] at h; exact False.elim h
                | some w2 =>
                  rw [hg] at h
                  have ey : y = .int i := cy
                  refine ⟨F3, .int i, u, w2, o4.same, ey, hcv u hdr, hg, Ok.ret (Ok.drop o4) fun F4 H4 v s5 o5 => ?_⟩
                  exact h F4 H4 v (((s1.trans s3).trans s4).trans s5) (fun z => by cases z) o5
              · exact False.elim h
          cases z with
          | v u =>
            intro F3 H3 v s4 _ o4
            exact fin F3 H3 v [(v, u)] s4 o4 fun u' hu => dr_cv o4 (fun t e => by cases e; simp) (fun _ _ e => by cases e) hu
          | pl i p =>
            intro F3 H3 v s4 _ o4 hp
            exact fin F3 H3 v [] s4 o4 fun u' hu => dr_cv o4 (fun _ e => by cases e) (fun _ _ e => by cases e; exact hp) hu
      · rename_i hc
        refine ⟨F', s, t, _, o'.same, cx, cy, hc, Ok.ret od fun F2 H2 v s3 oo2 => ?_⟩
        obtain ⟨as, w⟩ := Ok.top oo2
        simp only [Own] at w
        refine ⟨false, w.2, ?_⟩
        rw [if_neg Bool.false_ne_true]
        exact h F2 H2 _ (s1.trans s3) (fun z => by cases z) (Ok.push (Ok.drop1 oo2) (by simp [View]) rfl)
      · exact False.elim h
    · exact False.elim h
theorem chain_bl {o1 o2 : CmpOp} {ca cb cc : CE} {η η' : Env} {x : Opd} (h : evE C (.chain o1 o2 ca cb cc) η = .ok (x, η')) : ∃ k, x = .v (.bl k) := by
  simp only [evE] at h
  cases e : evL [(pu ca, evE C ca), (pu cb, evE C cb)] η with
  | err => rw [e] at h; cases h
  | exc c p η' => rw [e] at h; cases h
  | ok r =>
    rw [e] at h
    simp only [TV.R.bind] at h
    split at h
    · split at h
      · cases e2 : evE C cc r.2 with
        | err => rw [e2] at h; cases h
        | exc c p η' => rw [e2] at h; cases h
        | ok r2 =>
          rw [e2] at h
          simp only at h
          split at h
          · split at h
            · generalize hg : cmpT o2 _ _ = g at h
              cases g with
              | none => cases h
              | some w2 =>
                obtain ⟨k, rfl⟩ := cmpT_bl hg
                simp only [ofO] at h
                cases h
                exact ⟨k, rfl⟩
            · cases h
          · cases h
      · cases h; exact ⟨false, rfl⟩
      · cases h
    · cases h
theorem chain_tc {k : Nat} {o1 o2 : CmpOp} {ca cb cc : CE} {Q : VK} (h : IE G W false (evE C (.chain o1 o2 ca cb cc)) σ H Q) : tChain (r2F G.ca (cmpT o1)) (r2F G.ca (cmpT o2)) (IE G W (pu ca) (evE C ca)) (IE G W (pu cb) (evE C cb)) (IE G W (pu cc) (evE C cc)) σ H Q := by
  have h1 := ia_cons (chain_ie h)
  refine ie_mono h1 fun x H1 h2 => ?_
  refine ie_mono (ia_cons h2) fun y H2 h3 => ?_
  obtain ⟨x', y', e, q⟩ := ia_nil h3
  cases e
  exact q
theorem pe_chainI {k : Nat} (hr : Room k X.A) {o1 o2 : CmpOp} {a b c : Expr} {ca cb cc : CE} {pos} (ha : PE X a (IE G W (pu ca) (evE C ca))) (hb : PE X b (IE G W (pu cb) (evE C cb))) (hc : PE X c (IE G W (pu cc) (evE C cc))) (hm : lastMarks [o1, o2] [b, c] = false) :
    PE X (.Compare a [o1, o2] [b, c] pos) (IE G W false (evE C (.chain o1 o2 ca cb cc))) :=
  pe_by (pe_chain (op_cmp (ca := G.ca) hr o1) (op_cmp (ca := G.ca) hr o2) ha hb hc hm) fun σ H Q h => chain_tc (k := k) h
theorem pt_chainI {k : Nat} (hr : Room k X.A) {o1 o2 : CmpOp} {a b c : Expr} {ca cb cc : CE} {pos} (ha : PE X a (IE G W (pu ca) (evE C ca))) (hb : PE X b (IE G W (pu cb) (evE C cb))) (hc : PE X c (IE G W (pu cc) (evE C cc))) (hm : lastMarks [o1, o2] [b, c] = false) :
    PT X (.Compare a [o1, o2] [b, c] pos) (IB G W (evE C (.chain o1 o2 ca cb cc))) :=
  pt_by (pt_chain (op_cmp (ca := G.ca) hr o1) (op_cmp (ca := G.ca) hr o2) ha hb hc hm) fun σ H Q h => chain_tc (k := k) (it_bl h fun η x η' e => chain_bl e)
/-! ### attributes -/
theorem fpos_lookup : ∀ {ns : List Str} {vs : List V} {f : Str} {j : Nat} {v : V}, fpos ns f = some j → vs[j]? = some v → (ns.zip vs).lookup f = some v
  | [], _, _, _, _, h, _ => by simp [fpos] at h
  | x :: ns, [], _, _, _, _, e => by simp at e
  | x :: ns, u :: vs, f, j, v, h, e => by
    simp only [fpos] at h
    simp only [List.zip_cons_cons, List.lookup_cons]
    split at h
    · rename_i hx
      cases h
      subst hx
      simp at e
      simp [e]
    · rename_i hx
      cases e2 : fpos ns f with
      | none => rw [e2] at h; cases h
      | some i =>
        rw [e2] at h
        cases h
        have : (f == x) = false := by simpa using fun z => hx z.symm
        rw [this]
        exact fpos_lookup e2 (by simpa using e)
theorem PlV.snoc {j : Nat} {x : V} {n k : T} : ∀ {p : List Nat} {t : T} {u v : V}, PlV G.ca H t u p v → t.at p = some n → (∃ a vs, v = .ref a ∧ KidsAt G.ca H n a vs ∧ n.kids[j]? = some k ∧ vs[j]? = some x) → PlV G.ca H t u (p ++ [j]) x
  | [], t, u, v, h, e, ⟨a, vs, e1, h1, h2, h3⟩ => by
    have h : u = v := h
    subst h
    simp only [T.at] at e
    split at e
    · obtain rfl := Option.some.inj e
      exact ⟨a, vs, k, x, e1, h1, h2, h3, rfl⟩
    · cases e
  | i :: p, t, u, v, h, e, q => by
    obtain ⟨a, vs, k2, x2, rfl, h1, h2, h3, h4⟩ := h
    simp only [T.at, h2] at e
    split at e
    · exact ⟨a, vs, k2, x2, rfl, h1, h2, h3, PlV.snoc h4 e q⟩
    · cases e
/-- a child of an owned thing at a place -/
theorem child_ok {i : Nat} {p : List Nat} {n k : T} {v : V} {j : Nat} (o : G.Ok R F H σ η tmp) (hn : get η i p = some n) (hp : PlO G.ca H σ η i p v) (hk : n.kids[j]? = some k) :
    ∃ a vs x, v = .ref a ∧ KidsAt G.ca H n a vs ∧ vs[j]? = some x ∧ n.kids.length = vs.length ∧ (k.fl = true → PlO G.ca H σ η i (p ++ [j]) x) ∧ (k.fl = false → G.View F k x ∧ k.fz = true) := by
  obtain ⟨u, an, ar, at', hp', hf, w, _⟩ := Ok.focus o hn
  obtain rfl := hp.inj hp'
  obtain ⟨a, xs, vs, r, rfl, _, hka, hos, _⟩ := w.node hf
  obtain ⟨x, pre, ak, post, hx, _, ow, _⟩ := hos.focus hk
  refine ⟨a, vs, x, rfl, hka, hx, hos.length, fun _ => ?_, fun hfl => ?_⟩
  · obtain ⟨t, ht, hat⟩ := get_some hn
    obtain ⟨y, as, hs, _⟩ := Ok.slot o ht
    have pv : PlV G.ca H t y p (.ref a) := by
      cases p with
      | nil =>
        have hp : σ[i]? = some (some (V.ref a)) := hp
        rw [hs] at hp
        exact Option.some.inj (Option.some.inj hp)
      | cons z p =>
        obtain ⟨t', y', h1, h2, h3⟩ := hp
        rw [ht] at h1
        rw [hs] at h2
        obtain rfl := Option.some.inj (Option.some.inj h1)
        obtain rfl := Option.some.inj (Option.some.inj h2)
        exact h3
    have q := pv.snoc hat ⟨a, vs, rfl, hka, hk, hx⟩
    cases p with
    | nil => exact ⟨t, y, ht, hs, q⟩
    | cons z p => exact ⟨t, y, ht, hs, q⟩
  · have fz := ow.fz_of hfl
    exact ⟨(Own.of_fz fz ow).2, fz⟩
theorem att_ie {a : CE} {f : Str} {Q : VK} (hC : ∀ c, C.cl.contains c = true → Cls X.K (G.ca c) ∧ NoAttr X.K (G.ca c) f) (h : IE G W false (evE C (.att a f)) σ H Q) : tFld X.K (IE G W (pu a) (evE C a)) f σ H Q := by
  obtain ⟨R, F, η, tmp, o, h⟩ := h
  refine ⟨R, F, η, tmp, o, ?_⟩
  simp only [evE] at h
  cases e : evE C a η with
  | err => rw [e] at h; exact h
  | exc c p η' => rw [e] at h; exact h
  | ok r =>
    obtain ⟨x, η1⟩ := r
    rw [e] at h
    simp only [TV.R.bind] at h
    cases hat : attE C.cl η1 x f with
    | none => rw [hat] at h; exact False.elim h
    | some oo =>
      rw [hat] at h
      simp only [ofO] at h
      unfold attE at hat
      split at hat
      · rename_i ow c ns ts
        split at hat
        · rename_i hc
          rw [Bool.and_eq_true] at hc
          split at hat
          · rename_i j hj
            obtain ⟨t2, ht2, rfl⟩ := Option.map_eq_some_iff.mp hat
            intro F' H' v s1 s2 o'
            obtain ⟨as, w⟩ := Ok.top o'
            obtain ⟨p, dx, us, rfl, hl, hlen, hv, _⟩ := w.cv (show T.sh (.obj ow c ns ts) = true from hc.2) o'.same
            obtain ⟨u, hu, vu⟩ := hv.get ht2
            exact ⟨p, _, dx, _, u, rfl, hl, (hC c hc.1).1, (hC c hc.1).2, fpos_lookup hj hu, h F' H' u s1 (fun z => by cases z) (Ok.push (Ok.drop1 o') vu (fzs_mem hc.2 (List.mem_of_getElem? ht2)))⟩
          · cases hat
        · cases hat
      · rename_i i p
        split at hat
        · rename_i ow c ns ts hn
          split at hat
          · rename_i hc
            split at hat
            · rename_i j hj
              split at hat
              · rename_i k hk
                intro F' H' v s1 s2 o' hp
                obtain ⟨b, vs, y, rfl, ⟨dx, hka, hlen⟩, hy, _, c1, c2⟩ := child_ok o' hn hp (show (T.kids (.obj ow c ns ts))[j]? = some k from hk)
                refine ⟨b, _, dx, _, y, rfl, hka, (hC c hc).1, (hC c hc).2, fpos_lookup hj hy, ?_⟩
                split at hat
                · rename_i hfl
                  cases hat
                  exact h F' H' y s1 (fun z => by cases z) o' (c1 hfl)
                · rename_i hfl
                  cases hat
                  obtain ⟨v1, v2⟩ := c2 (by simpa using hfl)
                  exact h F' H' y s1 (fun z => by cases z) (Ok.push o' v1 v2)
              · cases hat
            · cases hat
          · cases hat
        · cases hat
      · cases hat
theorem pe_attI {e : Expr} {f : Str} {a : CE} {pos} (hC : ∀ c, C.cl.contains c = true → Cls X.K (G.ca c) ∧ NoAttr X.K (G.ca c) f) (he : PE X e (IE G W (pu a) (evE C a))) (hb : attributeBase e f X.env (eval e X.env) = eval e X.env) : PE X (.Attribute e f pos) (IE G W false (evE C (.att a f))) :=
  pe_by (pe_fld he hb) fun σ H Q h => att_ie hC h
/-! ### built-in functions -/
theorem bf_ie {b : BF} {es : List CE} {Q : VK} (h : IE G W false (evE C (.bf b es)) σ H Q) : IA G W (clos C es) σ H fun vs H1 => rF G.ca (bfT b) vs H1 Q :=
  ie_ops (ie_eq (fun η => by simp only [evE, opsF, evs_evL] <;> rfl) h)
theorem pe_bfI {b : BF} {x : Str} {e : Expr} {es : List Expr} {ces : List CE} {p pos : Pos} (hc : CallR X (bfV b) (rF G.ca (bfT b))) (hg : Gl X x) (hm : X.mg x = none) (hv : bootBuiltins x = some (bfV b)) (ha : PA X (e :: es) (IA G W (clos C ces))) (hn : x ≠ "__name__") (hdb : (x == ("__debug__" : Str)) = false)
    (he : starEach (e :: es) X.env = (false, eval e X.env) :: starEach es X.env) (hpl : (backTo pos (starEach es X.env)).any (·.1) = false) : PE X (.Call (.Name x p) (e :: es) [] pos) (IE G W false (evE C (.bf b ces))) := by
  have go : ∀ {id : String}, bfV b = .builtin id → PE X (.Call (.Name x p) (e :: es) [] pos) (IE G W false (evE C (.bf b ces))) := fun {id} h =>
    pe_by (pe_callB (id := id) (r := rF G.ca (bfT b)) (by rw [← h]; exact hc) hg hm (by rw [← h]; exact hv) ha hn hdb he hpl) fun σ H Q h => bf_ie h
  have go2 : ∀ {id : String}, bfV b = .type id → PE X (.Call (.Name x p) (e :: es) [] pos) (IE G W false (evE C (.bf b ces))) := fun {id} h =>
    pe_by (pe_callTy (T := id) (r := rF G.ca (bfT b)) (by rw [← h]; exact hc) hg hm (by rw [← h]; exact hv) ha hn hdb he hpl) fun σ H Q h => bf_ie h
  cases b <;> first | exact go rfl | exact go2 rfl
/-! ### list(range(n)), tuple(range(n)) -/
theorem views_ints {ca : Nat → Addr} {F : Hp} (f : Nat → Int) : ∀ l : List Nat, Views ca F (l.map fun i => T.int (f i)) (l.map fun i => V.int (f i))
  | [] => by simp [Views]
  | i :: l => by
    simp only [List.map_cons, Views]
    exact ⟨_, _, rfl, by simp [View], views_ints f l⟩
theorem fzs_ints (f : Nat → Int) : ∀ l : List Nat, fzs (l.map fun i => T.int (f i)) = true
  | [] => rfl
  | i :: l => by simp [fzs, T.fz, fzs_ints f l]
theorem rgV_zero (n : Int) : rgV 0 n = (List.range n.toNat).map fun (i : Nat) => V.int (i : Int) := by
  unfold rgV
  simp
theorem lrg_ie {b : BF} {a : CE} {Q : VK} (hb : b = .lrg ∨ b = .trg) (h : IE G W false (evE C (.bf b [a])) σ H Q) : IE G W (pu a) (evE C a) σ H fun x H1 => ∃ n, x = .int n ∧ RgOk 0 n ∧
    ∀ q, H1 q = none → Q (.ref q) (upd H1 q (if b = .lrg then .lst (rgV 0 n) else .tup (rgV 0 n))) := by
  refine ia_one (f := evE C a) (b := pu a) (ia_mono (bf_ie h) fun vs H1 ⟨F, ts, r, s, cv, hr, q⟩ => ?_)
  obtain ⟨n, rfl, hn, e⟩ : ∃ n, ts = [.int n] ∧ (0 ≤ n ∧ n.natAbs ≤ 16777216) ∧ r = (if b = .lrg then .lst true ((List.range n.toNat).map fun (i : Nat) => T.int i) else .tup ((List.range n.toNat).map fun (i : Nat) => T.int i)) := by
    rcases hb with rfl | rfl
    all_goals
      unfold bfT at hr
      split at hr <;> try contradiction
      rename_i n _
      split at hr
      · rename_i hn; cases hr; exact ⟨n, rfl, hn, rfl⟩
      · cases hr
  obtain ⟨v, r', e1, c1, c2⟩ := cv
  obtain rfl : r' = [] := c2
  obtain rfl : v = .int n := c1
  refine ⟨.int n, e1, n, rfl, RgOk.of_le (by omega) (by omega) (by omega) (by omega), fun p hp => ?_⟩
  rw [rgV_zero]
  rcases hb with rfl | rfl
  · subst e
    exact q.lst H1 _ _ p (Same.refl H1) rfl hp (views_ints (fun i => (i : Int)) _) (fzs_ints (fun i => (i : Int)) _)
  · subst e
    exact q.tup H1 _ _ p (Same.refl H1) rfl hp (views_ints (fun i => (i : Int)) _) (fzs_ints (fun i => (i : Int)) _)
theorem pe_lrgI {a : Expr} {ca : CE} {p p2 pos pos2 : Pos} (hc : X.calm = true) (hg : Gl X "list") (hm : X.mg "list" = none) (hg2 : Gl X "range") (hm2 : X.mg "range" = none) (ha : PE X a (IE G W (pu ca) (evE C ca)))
    (na : starEach [a] X.env = (false, eval a X.env) :: starEach [] X.env) : PE X (.Call (.Name "list" p) [.Call (.Name "range" p2) [a] [] pos2] [] pos) (IE G W false (evE C (.bf .lrg [ca]))) :=
  pe_by (pe_listRg hc hg hm (prg_1 hg2 hm2 ha na)) fun σ H Q h => by
    refine ie_mono (lrg_ie (.inl rfl) h) fun x H1 ⟨n, e, r, q⟩ => ⟨n, e, r, fun p hp => q p hp⟩
theorem pe_trgI {a : Expr} {ca : CE} {p p2 pos pos2 : Pos} (hc : X.calm = true) (hg : Gl X "tuple") (hm : X.mg "tuple" = none) (hg2 : Gl X "range") (hm2 : X.mg "range" = none) (ha : PE X a (IE G W (pu ca) (evE C ca)))
    (na : starEach [a] X.env = (false, eval a X.env) :: starEach [] X.env) : PE X (.Call (.Name "tuple" p) [.Call (.Name "range" p2) [a] [] pos2] [] pos) (IE G W false (evE C (.bf .trg [ca]))) :=
  pe_by (pe_tupRg hc hg hm (prg_1 hg2 hm2 ha na)) fun σ H Q h => by
    refine ie_mono (lrg_ie (.inr rfl) h) fun x H1 ⟨n, e, r, q⟩ => ⟨n, e, r, fun p hp => q p hp⟩
end
end TV
/-! expressions: isinstance, items, slices -/
namespace TV
open PySem L2
def tyV (G : Par) : TyN → Value
  | .int => .type "int" | .bool => .type "bool" | .tuple => .type "tuple" | .list => .type "list" | .dict => .type "dict" | .str => .type "str" | .non => .type "NoneType"
  | .cls c => .ref (G.ca c)
/-- a class of the program whose instances isinstance looks at -/
structure ClsI (K : PySem.W.Frag) (C : Addr) : Prop where
  cl : Cls K C
  ha : PySem.W.findIn K (.ref C) "__class__" = some (some (.builtin "object.__class__"))
  hn : PySem.W.specialIn K (.builtin "object.__class__") "__get__" = some (some (.builtin "getset_descriptor.__get__"))
  htk : PySem.W.takesIn K (.builtin "object.__class__") = some true
  hm : PySem.W.mroIn K C (.type "object") = some true
section
variable {X : Cx} {G : Par} {W : WX} {C : Ctx} {R F H : Hp} {σ : St} {η : Env} {tmp : List (V × T)}
theorem pe_ex {e : Expr} {te' : TE} (h : ∀ σ H Q, te' σ H Q → ∃ te, PE X e te ∧ te σ H Q) : PE X e te' :=
  ⟨fun pins s σ H Q I q => by
    obtain ⟨te, h1, h2⟩ := h σ H Q q
    exact h1.run pins s σ H Q I h2⟩
theorem CV.mono {ca : Nat → Addr} {F H H2 : Hp} {t : T} {v : V} (c : CV ca F H t v) (s : Same H H2) : CV ca F H2 t v := by
  cases t with
  | lst o ts => obtain ⟨a, vs, e1, h, x⟩ := c; exact ⟨a, vs, e1, Same.rd s h, x⟩
  | tup ts => exact c
  | dic o ks ts => obtain ⟨a, vs, e1, h, x⟩ := c; exact ⟨a, vs, e1, h.mono (s a), x⟩
  | obj o c' ns ts => obtain ⟨a, dx, vs, e1, h, x⟩ := c; exact ⟨a, dx, vs, e1, s _ _ h, x⟩
  | _ => exact c
theorem cv_ty {K : PySem.W.Frag} {t : T} {v : V} (hI : ∀ c, C.cl.contains c = true → ClsI K (G.ca c)) (e : Same F H) (c : CV G.ca F H t v) (hin : tyIn C.cl (tyOf t) = true) : TyX K H v (tyV G (tyOf t)) := by
  cases t with
  | non => obtain rfl := c; exact .base .non
  | bl b => obtain rfl := c; exact .base (.bl b)
  | int i => obtain rfl := c; exact .base (.int i)
  | str s => obtain rfl := c; exact .base (.str s)
  | tup ts => obtain ⟨a, vs, rfl, h, _⟩ := c; exact .base (.tup (e _ _ h))
  | lst o ts =>
    obtain ⟨a, vs, rfl, h, _⟩ := c
    rcases h with h | ⟨ob, h⟩
    · exact .base (.lst h)
    · exact .base (.frz h)
  | dic o ks ts =>
    obtain ⟨a, vs, rfl, h, _⟩ := c
    rcases h with ⟨_, _, _, h⟩ | ⟨_, _, _, h⟩
    · exact .base (.dK h)
    · exact .base (.dT h)
  | obj o c ns ts =>
    obtain ⟨a, dx, vs, rfl, h, _⟩ := c
    have k := hI c hin
    exact .base (.ins h k.cl k.ha k.hn k.htk k.hm)
theorem kit_any {K : PySem.W.Frag} {t : TyN} (hk : ∀ a b, tyIn C.cl a = true → tyIn C.cl b = true → PySem.W.kitOne K (tyV G a) (tyV G b) = some (kitN a b)) (ht : tyIn C.cl t = true) : ∀ {ts : List TyN}, ts.all (tyIn C.cl) = true →
    PySem.W.kitAny K (tyV G t) (ts.map (tyV G)) = some (ts.any (kitN t))
  | [], _ => rfl
  | n :: ts, h => by
    simp only [List.all_cons, Bool.and_eq_true] at h
    simp only [List.map_cons, PySem.W.kitAny, hk t n ht h.1, List.any_cons]
    cases kitN t n with
    | true => rfl
    | false => simpa using kit_any hk ht h.2
theorem isi_ie {a : CE} {ts : List TyN} {Q : VK} (hI : ∀ c, C.cl.contains c = true → ClsI X.K (G.ca c)) (h : IE G W false (evE C (.isi a ts)) σ H Q) : IE G W (pu a) (evE C a) σ H fun x H1 => ∃ t, tyIn C.cl t = true ∧ ts.all (tyIn C.cl) = true ∧ ∀ H2, Same H1 H2 → TyX X.K H2 x (tyV G t) ∧ Q (.bl (ts.any (kitN t))) H2 := by
  have h := ia_one (ia_mono (fs := [(pu a, evE C a)]) (ie_ops (g := g1 fun t => isiT C.cl t ts) (ie_eq (fun η => by
    simp only [evE, opsF, evL]
    cases evE C a η with
    | err => rfl
    | exc c p η' => rfl
    | ok r =>
      obtain ⟨x, η1⟩ := r
      simp only [TV.R.bind, List.all_nil]
      have hs : stay x true η1 η1 = true := by
        unfold stay
        split
        · simp [beqE_refl]
        · rfl
      simp only [hs, if_true, drs]
      cases dr η1 x with
      | none => rfl
      | some t => rfl) h)) fun vs H1 h => rF_one h)
  refine ie_mono h fun x H1 ⟨F, t, r, e, c, hg, q⟩ => ?_
  unfold isiT at hg
  dsimp only at hg
  split at hg
  · rename_i hh
    cases hg
    rw [Bool.and_eq_true] at hh
    exact ⟨tyOf t, hh.1, hh.2, fun H2 s => ⟨cv_ty hI (e.trans s) (c.mono s) hh.1, q.old H2 _ s (by simp [View]) rfl⟩⟩
  · cases hg
theorem pe_isi1 {e c : Expr} {a : CE} {n : TyN} {cv : V} {p pos : Pos} (hI : ∀ c, C.cl.contains c = true → ClsI X.K (G.ca c)) (hk : ∀ a b, tyIn C.cl a = true → tyIn C.cl b = true → PySem.W.kitOne X.K (tyV G a) (tyV G b) = some (kitN a b))
    (hg : Gl X "isinstance") (hm : X.mg "isinstance" = none) (he : PE X e (IE G W (pu a) (evE C a))) (hc : PE X c (tC cv)) (hcv : ClsV cv (tyV G n)) (h1 : starEach (e :: [c]) X.env = (false, eval e X.env) :: starEach [c] X.env) (h2 : starEach (c :: []) X.env = (false, eval c X.env) :: starEach [] X.env)
    (hpl : (backTo pos (starEach [c] X.env)).any (·.1) = false) : PE X (.Call (.Name "isinstance" p) [e, c] [] pos) (IE G W false (evE C (.isi a [n]))) :=
  pe_by (pe_callB call_isi hg hm (by decide +kernel) (pa_cons he (pa_cons hc pa_nil h2) h1) (by decide) (by decide) h1 hpl) fun σ H Q h => ie_mono (isi_ie hI h) fun x H1 ⟨t, t1, t2, q⟩ => by
    simp only [List.all_cons, Bool.and_eq_true] at t2
    obtain ⟨ty, q⟩ := q H1 (Same.refl H1)
    refine ⟨x, cv, _, _, _, rfl, hcv, ty, hk t n t1 t2.1, ?_⟩
    simpa using q
/-- several constants -/
def tCs (vs : List V) : TA := fun _ H Q => Q vs H
theorem pa_consts {es : List Expr} {vs : List V} (h : PA X es (tCs vs)) {e : Expr} {v : V} (he : PE X e (tC v)) (hs : starEach (e :: es) X.env = (false, eval e X.env) :: starEach es X.env) : PA X (e :: es) (tCs (v :: vs)) :=
  pa_by (pa_cons he h hs) fun σ H Q q => q
theorem pa_const0 : PA X [] (tCs []) := pa_by pa_nil fun σ H Q q => q
theorem pe_isiT {e : Expr} {cs : List Expr} {a : CE} {ns : List TyN} {cvs : List V} {k : Nat} {p p2 pos : Pos} (hI : ∀ c, C.cl.contains c = true → ClsI X.K (G.ca c)) (hk : ∀ a b, tyIn C.cl a = true → tyIn C.cl b = true → PySem.W.kitOne X.K (tyV G a) (tyV G b) = some (kitN a b))
    (hg : Gl X "isinstance") (hm : X.mg "isinstance" = none) (he : PE X e (IE G W (pu a) (evE C a))) (hc : PA X cs (tCs cvs)) (hcv : Paired ClsV cvs (ns.map (tyV G))) (hl : cvs.length ≤ 1000) (h1 : starEach (e :: [.Tuple cs k p2]) X.env = (false, eval e X.env) :: starEach [.Tuple cs k p2] X.env)
    (h2 : starEach (.Tuple cs k p2 :: []) X.env = (false, eval (.Tuple cs k p2) X.env) :: starEach [] X.env)
    (hpl : (backTo pos (starEach [.Tuple cs k p2] X.env)).any (·.1) = false) : PE X (.Call (.Name "isinstance" p) [e, .Tuple cs k p2] [] pos) (IE G W false (evE C (.isi a ns))) :=
  pe_by (pe_callB call_isiT hg hm (by decide +kernel) (pa_cons he (pa_cons (pe_tup hc) pa_nil h2) h1) (by decide) (by decide) h1 hpl) fun σ H Q h => by
    refine ie_mono (isi_ie hI h) fun x H1 ⟨t, t1, t2, q⟩ => ?_
    refine ⟨Nat.le_trans hl (by rw [sizeLine_eq]; decide), fun p hp => ?_⟩
    obtain ⟨ty, q⟩ := q _ (same_new (x := .tup cvs) hp)
    exact ⟨x, p, cvs, _, _, _, rfl, upd_same, hcv, ty, kit_any hk t1 t2, q⟩
/-! ### items -/
/-- what stands at an item, by the kind of the container -/
def IdxF (G : Par) (H : Hp) (k : T) (F : Hp) (x y : V) (Q : VK) : T → Prop
  | .lst _ ts => ∃ a vs i j z, x = .ref a ∧ y = .int i ∧ Rd H a (.lst vs) ∧ ixN vs.length i = some j ∧ vs[j]? = some z ∧ Q z H
  | .tup ts => ∃ a vs i j z, x = .ref a ∧ y = .int i ∧ H a = some (.tup vs) ∧ ixN vs.length i = some j ∧ vs[j]? = some z ∧ Q z H
  | .dic _ ks ts => ∃ a vs j z, x = .ref a ∧ DicAt H a ks vs ∧ keyFit ks k = true ∧ Same F H ∧ CV G.ca F H k y ∧ kpos ks k = some j ∧ vs[j]? = some z ∧ Q z H
  | _ => False
theorem idx_fin {oa oi oo : Opd} {k : T} {x y : V} {Q : VK} {η1 : Env} {F1 H1 : Hp} {R0 F0 H0 : Hp} (s1 : Same F0 F1) (o' : G.Ok R0 F1 H1 σ η1 (tms [oa, oi] [x, y] ++ tmp)) (pl : Pls G H1 σ η1 [oa, oi] [x, y]) (hk : dr η1 oi = some k) (hi : idxE η1 oa k = some oo)
    (h : EvP G W false R0 F0 H0 σ tmp (.ok (oo, η1)) Q) : ∃ t, kindO η1 oa = some t ∧ IdxF G H1 k F1 x y Q t := by
  have od := Ok.drop o'
  have cy : CV G.ca F1 H1 k y := by
    refine dr_cv o' (fun t e => ?_) (fun i p e => ?_) hk
    · subst e
      cases oa <;> simp [tms]
    · subst e
      cases oa with
      | v u => simp only [Pls] at pl; obtain ⟨v, r, e1, v2, r2, e2, h2, e3⟩ := pl; cases e1; cases e2; exact h2
      | pl i' p' => simp only [Pls] at pl; obtain ⟨v, r, e1, _, v2, r2, e2, h2, e3⟩ := pl; cases e1; cases e2; exact h2
  cases oa with
  | v t =>
    refine ⟨t, rfl, ?_⟩
    simp only [idxE] at hi
    split at hi
    · rename_i hs
      split at hi
      · rename_i j hj
        obtain ⟨c, hc, rfl⟩ := Option.map_eq_some_iff.mp hi
        have m : (x, t) ∈ tms [.v t, oi] [x, y] ++ tmp := by cases oi <;> simp [tms]
        obtain ⟨as, w⟩ := Ok.mem o' m
        have cv := w.cv hs o'.same
        have fin : ∀ z, G.View F1 c z → c.fz = true → Q z H1 := fun z vz fz => h F1 H1 z s1 (fun q => by cases q) (Ok.push od vz fz)
        cases t with
        | lst ow ts =>
          obtain ⟨a, vs, rfl, hr, hv, hf⟩ := cv
          cases k with
          | int i =>
            simp only [childOf, idxOf] at hj
            have hc : ts[j]? = some c := hc
            obtain ⟨z, hz, vz⟩ := hv.get hc
            rw [hv.length] at hj
            exact ⟨a, vs, i, j, z, rfl, cy, hr, hj, hz, fin z vz (fzs_mem hf (List.mem_of_getElem? hc))⟩
          | _ => cases hj
        | tup ts =>
          obtain ⟨a, vs, rfl, hr, hv, hf⟩ := cv
          cases k with
          | int i =>
            simp only [childOf, idxOf] at hj
            have hc : ts[j]? = some c := hc
            obtain ⟨z, hz, vz⟩ := hv.get hc
            rw [hv.length] at hj
            exact ⟨a, vs, i, j, z, rfl, cy, o'.same _ _ hr, hj, hz, fin z vz (fzs_mem hf (List.mem_of_getElem? hc))⟩
          | _ => cases hj
        | dic ow ks ts =>
          obtain ⟨a, vs, rfl, hr, hv, hf⟩ := cv
          simp only [childOf] at hj
          split at hj
          · rename_i hfit
            have hc : ts[j]? = some c := hc
            obtain ⟨z, hz, vz⟩ := hv.get hc
            exact ⟨a, vs, j, z, rfl, hr, hfit, o'.same, cy, hj, hz, fin z vz (fzs_mem hf (List.mem_of_getElem? hc))⟩
          · cases hj
        | _ => cases hj
      · cases hi
    · cases hi
  | pl i p =>
    simp only [idxE] at hi
    split at hi
    · rename_i n hn
      refine ⟨n, hn, ?_⟩
      split at hi
      · rename_i j hj
        split at hi
        · rename_i c hc
          have hp : PlO G.ca H1 σ η1 i p x := by
            simp only [Pls] at pl
            obtain ⟨v, r, e1, h1, _⟩ := pl
            cases e1
            exact h1
          have fin : ∀ z, (c.fl = true → PlO G.ca H1 σ η1 i (p ++ [j]) z) → (c.fl = false → G.View F1 c z ∧ c.fz = true) → Q z H1 := fun z c1 c2 => by
            split at hi
            · rename_i hfl
              cases hi
              exact h F1 H1 z s1 (fun q => by cases q) od (c1 hfl)
            · rename_i hfl
              cases hi
              obtain ⟨v1, v2⟩ := c2 (by simpa using hfl)
              exact h F1 H1 z s1 (fun q => by cases q) (Ok.push od v1 v2)
          cases n with
          | lst ow ts =>
            obtain ⟨a, vs, z, rfl, hka, hz, hl, c1, c2⟩ := child_ok od hn hp (show (T.kids (.lst ow ts))[j]? = some c from hc)
            cases k with
            | int i2 =>
              simp only [childOf, idxOf] at hj
              have hl : ts.length = vs.length := hl
              rw [hl] at hj
              exact ⟨a, vs, i2, j, z, rfl, cy, .inl hka, hj, hz, fin z c1 c2⟩
            | _ => cases hj
          | dic ow ks ts =>
            obtain ⟨a, vs, z, rfl, hka, hz, hl, c1, c2⟩ := child_ok od hn hp (show (T.kids (.dic ow ks ts))[j]? = some c from hc)
            simp only [childOf] at hj
            split at hj
            · rename_i hfit
              exact ⟨a, vs, j, z, rfl, hka, hfit, o'.same, cy, hj, hz, fin z c1 c2⟩
            · cases hj
          | tup ts =>
            obtain ⟨u, an, ar, at', hp', hf, w, _⟩ := Ok.focus od hn
            simp [T.fl] at hf
          | _ => cases hj
        · cases hi
      · cases hi
    · cases hi
theorem evE_idx {a i : CE} {η η' : Env} {oo : Opd} (h : evE C (.idx a i) η = .ok (oo, η')) : ∃ oa oi k, evL [(pu a, evE C a), (pu i, evE C i)] η = .ok ([oa, oi], η') ∧ dr η' oi = some k ∧ idxE η' oa k = some oo := by
  simp only [evE] at h
  cases e : evL [(pu a, evE C a), (pu i, evE C i)] η with
  | err => rw [e] at h; cases h
  | exc c p η' => rw [e] at h; cases h
  | ok res =>
    obtain ⟨os, η1⟩ := res
    rw [e] at h
    simp only [TV.R.bind] at h
    split at h
    · rename_i oa oi
      split at h
      · rename_i k hk
        cases hi : idxE η1 oa k with
        | none => rw [hi] at h; cases h
        | some o2 =>
          rw [hi] at h
          simp only [ofO] at h
          cases h
          exact ⟨oa, oi, k, rfl, hk, hi⟩
      · cases h
    · cases h
theorem pe_idxI {k : Nat} {a i : Expr} {ca ci : CE} {pos} (hr : Room k X.A) (ha : PE X a (IE G W (pu ca) (evE C ca))) (hi : PE X i (IE G W (pu ci) (evE C ci))) (hs : PlainIx i) : PE X (.Subscript a i pos) (IE G W false (evE C (.idx ca ci))) := by
  refine pe_ex fun σ H Q h => ?_
  have hu : X.A.units + 1 < cLine := hu_of hr
  -- the container's kind
  obtain ⟨R, F, η, tmp, o, hv⟩ := id h
  have byK : ∀ (r : R2) (p : T → Prop), (∀ oa oi k oo η', evL [(pu ca, evE C ca), (pu ci, evE C ci)] η = .ok ([oa, oi], η') → dr η' oi = some k → idxE η' oa k = some oo → ∀ t, kindO η' oa = some t → p t) →
      (∀ t k F' H' x y, p t → IdxF G H' k F' x y Q t → r x y H' Q) → tOp r (IE G W (pu ca) (evE C ca)) (IE G W (pu ci) (evE C ci)) σ H Q := fun r p hp hr => by
    refine ia_two (f := (pu ca, evE C ca)) (g := (pu ci, evE C ci)) ⟨R, F, η, tmp, o, ?_⟩
    have h0 := hv
    simp only [evE] at h0
    cases e : evL [(pu ca, evE C ca), (pu ci, evE C ci)] η with
    | err => rw [e] at h0; exact h0
    | exc c p η' => rw [e] at h0; exact h0
    | ok res =>
      obtain ⟨os, η1⟩ := res
      rw [e] at h0
      intro F' H' vs s1 s2 o' pl
      simp only [TV.R.bind] at h0
      split at h0
      · rename_i oa oi
        split at h0
        · rename_i k hk
          cases hi : idxE η1 oa k with
          | none => rw [hi] at h0; exact False.elim h0
          | some oo =>
            rw [hi] at h0
            obtain ⟨x, y, rfl⟩ : ∃ x y, vs = [x, y] := by
              have := pl.len
              match vs, this with
              | [x, y], _ => exact ⟨x, y, rfl⟩
            obtain ⟨t, ht, hf⟩ := idx_fin s1 o' pl hk hi h0
            exact ⟨x, y, rfl, hr t k F' H' x y (hp oa oi k oo η1 e hk hi t ht) hf⟩
        · exact False.elim h0
      · exact False.elim h0
  cases ev : evE C (.idx ca ci) η with
  | err => rw [ev] at hv; exact False.elim hv
  | exc c p η' =>
    refine ⟨_, pe_ix ix_list ha hi hs, byK _ (fun _ => False) (fun oa oi k oo η' e hk hi t ht => ?_) fun _ _ _ _ _ _ z => False.elim z⟩
    simp only [evE, e, TV.R.bind, hk, hi, ofO] at ev
    cases ev
  | ok res =>
    obtain ⟨oo, η1⟩ := res
    obtain ⟨oa, oi, k, e1, e2, e3⟩ := evE_idx ev
    have uniq : ∀ oa' oi' k' oo' η', evL [(pu ca, evE C ca), (pu ci, evE C ci)] η = .ok ([oa', oi'], η') → dr η' oi' = some k' → idxE η' oa' k' = some oo' → ∀ t, kindO η' oa' = some t → kindO η1 oa = some t := fun oa' oi' k' oo' η' q1 _ _ t ht => by
      rw [e1] at q1
      cases q1
      exact ht
    cases hk : kindO η1 oa with
    | none =>
      refine ⟨_, pe_ix ix_list ha hi hs, byK _ (fun _ => False) (fun oa' oi' k' oo' η' q1 q2 q3 t ht => ?_) fun _ _ _ _ _ _ z => False.elim z⟩
      have := uniq _ _ _ _ _ q1 q2 q3 t ht
      rw [hk] at this; cases this
    | some t0 =>
      have p0 : ∀ oa' oi' k' oo' η', evL [(pu ca, evE C ca), (pu ci, evE C ci)] η = .ok ([oa', oi'], η') → dr η' oi' = some k' → idxE η' oa' k' = some oo' → ∀ t, kindO η' oa' = some t → t = t0 := fun oa' oi' k' oo' η' q1 q2 q3 t ht => by
        have := uniq _ _ _ _ _ q1 q2 q3 t ht
        rw [hk] at this
        exact (Option.some.inj this).symm
      cases t0 with
      | lst ow ts =>
        refine ⟨_, pe_ix ix_list ha hi hs, byK _ (fun t => t = .lst ow ts) p0 fun t k F' H' x y e hf => ?_⟩
        subst e
        obtain ⟨a, vs, i, j, z, rfl, rfl, hr, hj, hz, q⟩ := hf
        exact ⟨a, vs, i, z, rfl, rfl, .inl hr, by unfold atI; rw [hj]; exact hz, q⟩
      | tup ts =>
        refine ⟨_, pe_ix ix_tup ha hi hs, byK _ (fun t => t = .tup ts) p0 fun t k F' H' x y e hf => ?_⟩
        subst e
        obtain ⟨a, vs, i, j, z, rfl, rfl, hr, hj, hz, q⟩ := hf
        exact ⟨a, vs, i, z, rfl, rfl, .inl (.inl hr), by unfold atI; rw [hj]; exact hz, q⟩
      | dic ow ks ts =>
        refine ⟨_, pe_dget hu ha hi hs, ?_⟩
        refine byK (fun x y H2 Q => ∃ a v, x = .ref a ∧ DGet H2 a y (some v) ∧ Q v H2) (fun t => t = .dic ow ks ts) p0 fun t k F' H' x y e hf => ?_
        subst e
        obtain ⟨a, vs, j, z, rfl, hd, hfit, sF, cy, hj, hz, q⟩ := hf
        refine ⟨a, z, rfl, ?_, q⟩
        have := dic_get hd hfit (fun e => by subst e; simp [kpos] at hj) sF cy
        rw [hj] at this
        simpa [hz] using this
      | _ =>
        refine ⟨_, pe_ix ix_list ha hi hs, byK _ (fun _ => False) (fun oa' oi' k' oo' η' q1 q2 q3 t ht => ?_) fun _ _ _ _ _ _ z => False.elim z⟩
        have := p0 _ _ _ _ _ q1 q2 q3 t ht
        subst this
        rw [e1] at q1
        cases q1
        cases oa with
        | v u => cases hk; simp [idxE, childOf] at q3
        | pl i p =>
          simp only [kindO] at hk
          simp [idxE, hk, childOf] at q3
end
end TV
/-! slices -/
namespace TV
open PySem L2
section
open PySem.Spec PyProof.Rows HT
variable {prog : Program} {w : World} {A : Around} {E : Value → Shared → Prop} {s : Shared}
theorem sliceApplied_rev {sl : Addr} {t0 : Tok} {n : Nat} {Q : Int × Int × Nat → Shared → Prop} (hs : s.heap.IsSliceOf sl .none .none (.int (-1) t0)) (h : Q ((n : Int) - 1, -1, n) s) : wpAny (model prog w) A (Builtin.Slice.sliceApplied (.ref sl) (pure (n : Int))) Q E s := by
  obtain ⟨os, hos, hcs, hds⟩ := id hs
  unfold Builtin.Slice.sliceApplied Builtin.Slice.sliceFields
  refine wpAny_bind (wpAny_bind (wpAny_field hos hds (x := .none) rfl (wpAny_bind (wpAny_field hos hds (x := .none) rfl (wpAny_bind (wpAny_field hos hds (x := .int (-1) t0) rfl (wpAny_pure ?_)))))))
  refine wpAny_bind (slicePart_int ?_)
  show wpAny _ _ (if ((-1 : Int) == 0) = true then _ else _) _ _ s
  rw [if_neg (by decide)]
  refine wpAny_bind (slicePart_none (wpAny_bind (slicePart_none (wpAny_bind (wpAny_pure ?_)))))
  show wpAny _ _ (pure ((n : Int) - 1, (-1 : Int), Builtin.Slice.slicePlaces ((n : Int) - 1) (-1) (-1))) _ _ s
  have e : Builtin.Slice.slicePlaces ((n : Int) - 1) (-1) (-1) = n := by
    unfold Builtin.Slice.slicePlaces
    rw [if_neg (by decide)]
    split
    · rw [show -(-1 : Int) = 1 from rfl, Int.ediv_one]; omega
    · omega
  rw [e]
  exact wpAny_pure h
theorem pick_rev (xs : Array Value) : ((List.range xs.size).filterMap fun (m : Nat) => xs[(((xs.size : Int) - 1) + (m : Int) * (-1)).toNat]?).toArray = xs.toList.reverse.toArray := by
  congr 1
  have e : ∀ k, k ≤ xs.size → ((List.range k).filterMap fun (m : Nat) => xs[(((xs.size : Int) - 1) + (m : Int) * (-1)).toNat]?) = xs.toList.reverse.take k := by
    intro k
    induction k with
    | zero => simp
    | succ k ih =>
      intro hk
      rw [List.range_succ, List.filterMap_append, ih (by omega), List.take_add_one]
      congr 1
      have h2 : (((xs.size : Int) - 1) + (k : Int) * (-1)).toNat = xs.size - 1 - k := by omega
      simp only [List.filterMap_cons, List.filterMap_nil, h2]
      rw [List.getElem?_reverse (by simp; omega)]
      simp only [Array.length_toList, Array.getElem?_toList]
      rw [Array.getElem?_eq_getElem (by omega)]
      rfl
  have := e xs.size (Nat.le_refl _)
  rw [this, List.take_of_length_le (by simp)]
theorem getItem_tuple_rev {t sl : Addr} {items : Array Value} {t0 : Tok} {Q : Value → Shared → Prop} (ht : IsTup s.heap t items) (hs : s.heap.IsSliceOf sl .none .none (.int (-1) t0))
    (h : Q (.ref s.heap.objs.size) { s with heap := s.heap.push { cls := .type "tuple", data := .seq items.toList.reverse.toArray } })
    (hsz : items.size ≤ sizeLine) : wpAny (model prog w) A (getItem (.ref t) (.ref sl)) Q E s := by
  have htake : sizeOk (.seq items.toList.reverse.toArray) := by
    show items.toList.reverse.toArray.size ≤ sizeLine
    simpa using hsz
  obtain ⟨os, hos, hcs, hds⟩ := id hs
  have hTs : s.TypeIs (.ref sl) "slice" := ⟨os, hos, hcs⟩
  unfold getItem
  try with_reducible refine wpAny_holding ?_
  first | refine wpAny_bind (wpAny_pure ?_) | skip
  refine wpAny_bind (wpAny_sequenceKey ht.typeIs (by decide) ?_)
  refine wpAny_bind (wpAny_callSpecial?_slot (name := Str.ofString "__getitem__") ht.typeIs PyProof.Rows.slot_tuple_getitem
    (wpAny_call_entry PyProof.Rows.slot_tuple_getitem ht.typeIs entry_tuple_getitem ?_ (args_tuple_getitem _ _)))
  show wpAny _ _ (Builtin.Tuple.tupleItemsOf (.ref t) >>= _) _ _ s
  refine wpAny_bind (tupleItemsOf_ ht ?_)
  refine wpAny_bind (wpAny_typeOf hTs ?_)
  rw [if_pos (by decide)]
  refine wpAny_bind (sliceApplied_rev hs ?_)
  have hno : ¬ ((((items.size : Int) - 1) == 0 && (-1 : Int) == 1 && items.size == items.size) = true) := by
    intro q
    rw [Bool.and_eq_true, Bool.and_eq_true] at q
    exact absurd q.1.2 (by decide)
  show wpAny _ _ (if (((items.size : Int) - 1) == 0 && (-1 : Int) == 1 && items.size == items.size) = true then _ else _) _ _ s
  rw [if_neg hno, pick_rev]
  first
    | exact wpAny_bind (m := Builtin.Tuple.tupleExact _) (wpAny_newObj_type (wpAny_pure ⟨_, rfl, wpAny_pure h⟩) htake)
    | exact wpAny_bind (m := Builtin.Tuple.tupleExact _) (wpAny_newObj_type (wpAny_bind (wpAny_pure (wpAny_pure ⟨_, rfl, wpAny_pure h⟩))) htake)
    | exact wpAny_bind (wpAny_bind (m := Builtin.Tuple.tupleExact _) (wpAny_newObj_type (wpAny_pure (wpAny_pure ⟨_, rfl, wpAny_pure h⟩)) htake))
    | exact wpAny_bind (wpAny_bind (m := Builtin.Tuple.tupleExact _) (wpAny_newObj_type (wpAny_pure ⟨_, rfl, wpAny_pure h⟩) htake))
end
section
open PySem.Spec PyProof.Rows
variable {X : Cx} {G : Par} {W : WX} {C : Ctx} {R F H : Hp} {σ : L2.St} {η : Env} {tmp : List (V × T)}
/-- a part of a slice, by its value -/
structure PV (X : Cx) (o : Option Expr) (t : TE) : Prop where
  run : ∀ (pins : List (Addr × Obj)) (s : Shared) (σ : L2.St) (H : Hp) (Q : VK), L2.Inv X pins σ H s → t σ H Q → wpAny (model X.prog X.w) X.A (evalPart o X.env) (EP X pins σ Q) X.xe s
theorem pv_none : PV X none (tC .non) := ⟨fun pins s σ H Q I h => by
  rw [evalPart_none]
  exact wpAny_pure ⟨.non, H, I, rfl, h⟩⟩
theorem pv_some {e : Expr} {te : TE} (h : PE X e te) : PV X (some e) te := ⟨fun pins s σ H Q I hw => by
  rw [evalPart_some]
  exact h.run pins s σ H Q I hw⟩
def PartV (y : V) (l : Option Int) : Prop := (y = .non ∧ l = none) ∨ ∃ i, y = .int i ∧ l = some i
theorem PartV.is {y : V} {u : Value} {l : Option Int} (h : PartV y l) (r : L2.RelV y u) : IsPart u l := by
  rcases h with ⟨rfl, rfl⟩ | ⟨i, rfl, rfl⟩
  · cases r; exact .none
  · obtain ⟨t, rfl⟩ := r; exact .int i t
theorem pe_sliceV {e : Expr} {te tl th : TE} {lo hi : Option Expr} {pos p2 : Pos} {r : V → Option Int → Option Int → Hp → VK → Prop} (hr : SlR X r) (he : PE X e te) (hl : PV X lo tl) (hu : PV X hi th) :
    PE X (.Subscript e (.Slice lo hi none p2) pos) (fun σ H Q => te σ H fun x H1 => tl σ H1 fun y H2 => th σ H2 fun z H3 => ∃ l h, PartV y l ∧ PartV z h ∧ r x l h H3 Q) := by
  refine ⟨fun pins s σ H Q I h => ?_⟩
  refine Subscript_ (thn (he.run pins s σ H _ I h) fun v s1 ⟨x, H1, I1, r1, q1⟩ => ?_)
  refine wpAny_Slice (thn (hl.run pins s1 σ H1 _ I1 q1) fun vl s2 ⟨y, H2, I2, ry, q2⟩ => thn (hu.run pins s2 σ H2 _ I2 q2) fun vu s3 ⟨z, H3, I3, rz, l, hh, pl, pu, q3⟩ => ?_)
  rw [evalPart_none]
  refine wpAny_pure ?_
  have I4 : L2.Inv X pins σ H3 { s3 with heap := s3.heap.push { cls := .type "slice", data := .fields #[vl, vu, .none] } } := I3.kept (t' := s3.toks) fun b ob q => Heap.get?_push_of_some _ q
  obtain ⟨T, id, hT, ht, hg⟩ := hr pins { s3 with heap := s3.heap.push { cls := .type "slice", data := .fields #[vl, vu, .none] } } σ H3 x v vl vu l hh s3.heap.objs.size Q I4 r1 (Heap.IsSliceOf.new ..) (pl.is ry) (pu.is rz) q3
  show wpAny (model X.prog X.w) X.A (subscriptTail e (.Slice lo hi none p2) v (.ref s3.heap.objs.size)) (EP X pins σ Q) X.xe { s3 with heap := s3.heap.push { cls := .type "slice", data := .fields #[vl, vu, .none] } }
  exact tail_any (ops := [.ref s3.heap.objs.size, v]) ht hT hg (by with_unfolding_all rfl)
theorem pe_revV {e st : Expr} {te ts : TE} {pos p2 : Pos} (he : PE X e te) (hst : PE X st ts) :
    PE X (.Subscript e (.Slice none none (some st) p2) pos) (fun σ H Q => te σ H fun x H1 => ts σ H1 fun y H2 => y = .int (-1) ∧ ∃ a xs, x = .ref a ∧ ((Rd H2 a (.lst xs) ∧ ∀ p, H2 p = none → Q (.ref p) (upd H2 p (.lst xs.reverse))) ∨ (H2 a = some (.tup xs) ∧ ∀ p, H2 p = none → Q (.ref p) (upd H2 p (.tup xs.reverse))))) := by
  refine ⟨fun pins s σ H Q I h => ?_⟩
  refine Subscript_ (thn (he.run pins s σ H _ I h) fun v s1 ⟨x, H1, I1, r1, q1⟩ => ?_)
  refine wpAny_Slice (thn (pv_none.run pins s1 σ H1 (fun o H2 => o = .non ∧ H2 = H1) I1 ⟨rfl, rfl⟩) fun vl s2 ⟨l, H2, I2, pl, el, e2⟩ => ?_)
  subst el e2
  cases pl
  refine thn (pv_none.run pins s2 σ H2 (fun o H3 => o = .non ∧ H3 = H2) I2 ⟨rfl, rfl⟩) fun vu s3 ⟨u, H3, I3, pu, eu, e3⟩ => ?_
  subst eu e3
  cases pu
  refine thn ((pv_some hst).run pins s3 σ H3 _ I3 q1) fun vs s4 ⟨y, H4, I4, ry, ey, q⟩ => ?_
  subst ey
  obtain ⟨t0, rfl⟩ := ry
  obtain ⟨a, xs, ex, q⟩ := q
  subst ex
  cases r1
  have I5 : L2.Inv X pins σ H4 { s4 with heap := s4.heap.push { cls := .type "slice", data := .fields #[.none, .none, .int (-1) t0] } } := I4.kept (t' := s4.toks) fun b ob q => Heap.get?_push_of_some _ q
  show wpAny (model X.prog X.w) X.A (subscriptTail e (.Slice none none (some st) p2) (.ref a) (.ref s4.heap.objs.size)) (EP X pins σ Q) X.xe { s4 with heap := s4.heap.push { cls := .type "slice", data := .fields #[.none, .none, .int (-1) t0] } }
  rcases q with ⟨hx, q⟩ | ⟨hx, q⟩
  · obtain ⟨its, r, ht, hz⟩ := I5.list (.inl hx)
    have hlen := r.length
    refine tail_any (ops := [.ref a, .ref s4.heap.objs.size]) ht.isList.typeIs (PySem.slot_list_getitem.lookup) ?_ (by with_unfolding_all rfl)
    refine wpAny_getItem_list_slice ht.isList (Heap.IsSliceOf.new _ _ _ _) .none .none (.int (-1) t0) (by decide) ?_ (by rw [List.size_toArray]; omega)
    rw [PySem.W.krv_pick]
    refine ⟨.ref _, _, I5.laid (t' := s4.toks) (o := .lst xs.reverse) (fun b ob q => Heap.get?_push_of_some _ q) (Nat.le_refl _) ?_, rfl, q _ (I5.hok.fresh (Nat.le_refl _))⟩
    exact ⟨by rw [List.length_reverse]; exact hz, _, 0, r.reverse, Heap.get?_push_size _ rfl⟩
  · obtain ⟨z, its, r, ht⟩ := I5.hok a _ hx
    have hlen := r.length
    refine tail_any (ops := [.ref a, .ref s4.heap.objs.size]) ht.typeIs (PyProof.Rows.slot_tuple_getitem.lookup) ?_ (by with_unfolding_all rfl)
    refine getItem_tuple_rev ht (Heap.IsSliceOf.new _ _ _ _) ?_ (by rw [List.size_toArray]; omega)
    refine ⟨.ref _, _, I5.laid (t' := s4.toks) (o := .tup xs.reverse) (fun b ob q => Heap.get?_push_of_some _ q) (Nat.le_refl _) ?_, rfl, q _ (I5.hok.fresh (Nat.le_refl _))⟩
    exact ⟨by rw [List.length_reverse]; exact z, _, r.reverse, _, Heap.get?_push_size _ rfl, rfl, _, rfl⟩
theorem cut_cutV (xs : List V) (l h : Option Int) : cutV xs l h = cut xs l h := by
  have e : ∀ (d : Nat) (o : Option Int), HT.sIx xs.length d o = TV.sIx xs.length d o := fun d o => by
    cases o with
    | none => rfl
    | some i =>
      show (if i < 0 then (i + (xs.length : Int)).toNat else min i.toNat xs.length) = (if 0 ≤ i then min i.toNat xs.length else (i + xs.length).toNat)
      by_cases h : i < 0
      · rw [if_pos h, if_neg (by omega)]
      · rw [if_neg h, if_pos (by omega)]
  unfold cutV cut
  rw [e, e]
theorem Views.cut {ca : Nat → Addr} {F : Hp} {ts : List T} {vs : List V} (h : Views ca F ts vs) (l u : Option Int) : Views ca F (TV.cut ts l u) (TV.cut vs l u) := by
  unfold TV.cut
  rw [h.length]
  exact (h.drop _).take _
theorem cut_mem {α : Type} {xs : List α} {l h : Option Int} {x : α} (m : x ∈ cut xs l h) : x ∈ xs := List.mem_of_mem_drop (List.mem_of_mem_take m)
theorem optI_part {t : T} {y : V} {l : Option Int} (c : CV G.ca F H t y) (h : optI t = some l) : PartV y l := by
  cases t <;> simp only [optI] at h <;> try contradiction
  · cases h; exact .inl ⟨c, rfl⟩
  · split at h
    · cases h; exact .inr ⟨_, c, rfl⟩
    · cases h
def rSlcA (K : PySem.W.Frag) : V → Option Int → Option Int → Hp → VK → Prop := fun x lo hi H Q => (∃ a xs, x = .ref a ∧ SqL K H a xs ∧ ∀ p, H p = none → Q (.ref p) (upd H p (.lst (cutV xs lo hi)))) ∨ rSlA K x lo hi H Q
theorem sl_any : SlR X (rSlcA X.K) := SlR.or sl_list sl_tupA
def g3 (g : T → T → T → Option T) : List T → Option T
  | [a, b, c] => g a b c
  | _ => none
theorem three_eq {g : T → T → T → Option T} {fs : List BClo} (η : Env) : (opsF (g3 g) fs) η = (evL fs η).bind fun x => match drs x.2 x.1 with
    | some [s, t, u] => (ofO (g s t u)).bind fun r => .ok (.v r, x.2)
    | _ => .err := by
  simp only [opsF]
  congr 1
  funext x
  cases drs x.2 x.1 with
  | none => rfl
  | some ts => match ts with
    | [] => rfl
    | [_] => rfl
    | [_, _] => rfl
    | [_, _, _] => rfl
    | _ :: _ :: _ :: _ :: _ => rfl
theorem slc_ie {a lo hi : CE} {Q : VK} (h : IE G W false (evE C (.slc a lo hi)) σ H Q) : IA G W (clos C [a, lo, hi]) σ H fun vs H1 => rF G.ca (g3 slcT) vs H1 Q :=
  ie_ops (ie_eq (fun η => by rw [three_eq]; simp only [evE, clos, List.map_cons, List.map_nil] <;> rfl) h)
/-- a[lo:hi] -/
theorem pe_slcI {e : Expr} {lo hi : Option Expr} {a cl ch : CE} {pos p2 : Pos} (he : PE X e (IE G W (pu a) (evE C a))) (hl : PV X lo (IE G W (pu cl) (evE C cl))) (hh : PV X hi (IE G W (pu ch) (evE C ch))) :
    PE X (.Subscript e (.Slice lo hi none p2) pos) (IE G W false (evE C (.slc a cl ch))) :=
  pe_by (pe_sliceV sl_any he hl hh) fun σ H Q h => by
    refine ie_mono (ia_cons (slc_ie h)) fun x H1 h1 => ie_mono (ia_cons h1) fun y H2 h2 => ie_mono (ia_cons h2) fun z H3 h3 => ?_
    obtain ⟨F4, ts, r, e, c, hg, q⟩ := ia_nil h3
    unfold g3 at hg
    split at hg
    · obtain ⟨x', y', z', e1, c1, c2, c3⟩ := cvs3 c
      cases e1
      simp only [slcT] at hg
      split at hg
      · rename_i l u hl hu
        refine ⟨l, u, optI_part c2 hl, optI_part c3 hu, ?_⟩
        split at hg
        · cases hg
          obtain ⟨p, vs, rfl, hr, hv, hf⟩ := c1
          refine .inl ⟨p, vs, rfl, .inl hr, fun p hp => ?_⟩
          rw [cut_cutV]
          exact q.lst H3 _ _ p (Same.refl H3) rfl hp (hv.cut l u) (fzs_sub hf fun t m => cut_mem m)
        · cases hg
          rename_i ts2
          obtain ⟨p, vs, rfl, hr, hv, hf⟩ := c1
          have fz := fzs_sub hf (b := cut ts2 l u) fun t m => cut_mem m
          refine .inr ⟨p, vs, rfl, .inl (.inl (e _ _ hr)), fun hw => ?_, fun _ p hp => ?_⟩
          · have ec : cut vs l u = vs := by
              rw [← cut_cutV]
              unfold cutV
              rw [hw.1, hw.2]
              simp
            refine q.old H3 _ (Same.refl H3) ?_ (by simpa [T.fz] using fz)
            simp only [View]
            exact ⟨p, vs, rfl, hr, by rw [← ec]; exact hv.cut l u⟩
          · rw [cut_cutV]
            exact q.tup H3 _ _ p (Same.refl H3) rfl hp (hv.cut l u) fz
        · cases hg
      · cases hg
    · cases hg
/-- a[::-1] -/
theorem pe_revI {e st : Expr} {a cs : CE} {pos p2 : Pos} (he : PE X e (IE G W (pu a) (evE C a))) (hs : PE X st (IE G W (pu cs) (evE C cs))) :
    PE X (.Subscript e (.Slice none none (some st) p2) pos) (IE G W false (evE C (.rev a cs))) :=
  pe_by (pe_revV he hs) fun σ H Q h => by
    have h0 := ie_ops (g := g2 revT) (fs := [(pu a, evE C a), (pu cs, evE C cs)]) (ie_eq (fun η => by rw [two_eq]; simp only [evE] <;> rfl) h)
    refine ie_mono (ia_cons h0) fun x H1 h1 => ie_mono (ia_cons h1) fun y H2 h2 => ?_
    obtain ⟨F4, ts, r, e, c, hg, q⟩ := ia_nil h2
    unfold g2 at hg
    split at hg
    · obtain ⟨x', y', e1, c1, c2⟩ := cvs2 c
      cases e1
      simp only [revT] at hg
      split at hg
      · split at hg
        · rename_i hi
          subst hi
          refine ⟨c2, ?_⟩
          split at hg
          · cases hg
            obtain ⟨p, vs, rfl, hr, hv, hf⟩ := c1
            exact ⟨p, vs, rfl, .inl ⟨hr, fun p hp => q.lst H2 _ _ p (Same.refl H2) rfl hp hv.reverse (fzs_sub hf fun t m => List.mem_reverse.mp m)⟩⟩
          · cases hg
            obtain ⟨p, vs, rfl, hr, hv, hf⟩ := c1
            exact ⟨p, vs, rfl, .inr ⟨e _ _ hr, fun p hp => q.tup H2 _ _ p (Same.refl H2) rfl hp hv.reverse (fzs_sub hf fun t m => List.mem_reverse.mp m)⟩⟩
          · cases hg
        · cases hg
      · cases hg
    · cases hg
end
end TV
/-! methods of lists and dicts -/
namespace TV
open PySem L2
section
variable {X : Cx} {G : Par} {W : WX} {C : Ctx} {R F H : Hp} {σ : St} {η : Env} {tmp : List (V × T)}
/-- an owned node is written -/
theorem Ok.write {i : Nat} {p : List Nat} {n : T} {x : V} {l : List (V × T)} (o : G.Ok R F H σ η (l ++ tmp)) (hg : get η i p = some n) (hp : PlO G.ca H σ η i p x) :
    ∃ an al, Own G.ca F H n x an ∧ OkT G.ca F H l al ∧ n.fl = true ∧ (∀ a, (an ++ al).count a ≤ 1) ∧ (∀ a ∈ an ++ al, F a = none) ∧
      ∀ (H' : Hp) (n' : T) (an' : List Addr) (l' : List (V × T)) (al' : List Addr), (∀ a, a ∉ an → ∀ o, H a = some o → H' a = some o) → Own G.ca F H' n' x an' → OkT G.ca F H' l' al' →
        (∀ a, (an' ++ al').count a ≤ (an ++ al).count a) → G.Ok R F H' σ (put η i p n') (l' ++ tmp) := by
  obtain ⟨v, an, ar, at', hp', hf, w, ht, hc, hm, back⟩ := Ok.focus o hg
  obtain rfl := hp.inj hp'
  obtain ⟨al, ar2, rfl, hl, hr⟩ := OkT.app.mp ht
  refine ⟨an, al, w, hl, hf, fun a => ?_, fun a ha => (hm a ?_).1, fun H' n' an' l' al' k w' ht' hle => ?_⟩
  · have := hc a
    simp only [List.count_append] at *; omega
  · simp only [List.mem_append] at ha ⊢
    rcases ha with z | z <;> simp [z]
  · have nar : ∀ a ∈ ar ++ ar2, a ∉ an := fun a ha hn => by
      have h1 := List.count_pos_iff.mpr ha
      have h2 := List.count_pos_iff.mpr hn
      have := hc a
      simp only [List.count_append] at *; omega
    obtain ⟨as', q1, q2⟩ := back F H' n' an' (Same.refl F) (fun a ha => k a (nar a (by simp [ha]))) w'
    have nF : ∀ a ∈ an, F a = none ∧ R a = none := fun a ha => hm a (by simp [ha])
    refine ⟨fun a y e => k a (fun m => by rw [(nF a m).1] at e; cases e) y (o.same a y e), fun a y e => ⟨k a (fun m => by rw [(nF a m).2] at e; cases e) y (o.fr a y e).1, (o.fr a y e).2⟩,
      ⟨as', al' ++ ar2, q1, OkT.app.mpr ⟨al', ar2, rfl, ht', hr.frame (Same.refl F) fun a ha => k a (nar a (by simp [ha]))⟩, fun a => ?_, fun a ha => hm a ?_⟩, o.pins⟩
    · have := hc a; have := hle a; have := q2 a
      simp only [List.count_append] at *; omega
    · refine mem_count_le ?_ ha
      have := hle a; have := q2 a
      simp only [List.count_append] at *; omega
theorem keep_ok {x : Opd} {t : T} {η' : Env} {v : V} {l : List (V × T)} (o : G.Ok R F H σ η l) (hl : l = tms [x] [v] ++ tmp) (hp : ∀ i p, x = .pl i p → PlW G.ca H σ η i p v) (h : keepO η x = some (t, η')) :
    ∃ F', Same F F' ∧ G.Ok R F' H σ η' ((v, t) :: tmp) ∧ ∀ i p v, PlW G.ca H σ η i p v → PlW G.ca H σ η' i p v := by
  cases x with
  | v u =>
    simp only [keepO] at h
    cases h
    subst hl
    exact ⟨F, Same.refl F, o, fun _ _ _ h => h⟩
  | pl i p =>
    obtain ⟨F', s, o', hv, hf, k⟩ := fre_ok o hl hp (show fre η (.pl i p) = some (t, η') from h)
    exact ⟨F', s, Ok.push o' hv hf, k⟩
theorem EvP.shift {F' : Hp} {r : TV.R (Opd × Env)} {Q : VK} (h : EvP G W false R F H σ tmp r Q) (s : Same F F') (H' : Hp) : EvP G W false R F' H' σ tmp r Q := by
  cases r with
  | err => exact h
  | exc c p η' => exact fun F2 H2 d s2 o2 ex => h F2 H2 d (s.trans s2) o2 ex
  | ok r =>
    obtain ⟨y, η2⟩ := r
    cases y with
    | v t => exact fun F2 H2 v s2 _ o2 => h F2 H2 v (s.trans s2) (fun z => by cases z) o2
    | pl i p => exact fun F2 H2 v s2 _ o2 hp => h F2 H2 v (s.trans s2) (fun z => by cases z) o2 hp
/-- a receiver, looked at, then the other operands -/
theorem ie_consC {chk : Opd → Env → Bool} {f : Clo} {fs : List BClo} {go : List Opd → Env → TV.R (Opd × Env)} {Q : VK} {bf : Bool} (h : IE G W false (fun η => (evLc chk f (fs.all (·.1)) (evL fs) η).bind fun x => go x.1 x.2) σ H Q) :
    IE G W bf f σ H fun x H1 => (∃ R F η tmp ox, G.Ok R F H1 σ η (tms [ox] [x] ++ tmp) ∧ (∀ i p, ox = .pl i p → PlO G.ca H1 σ η i p x) ∧ chk ox η = true) ∧
      IA G W fs σ H1 fun xs H2 => ∃ R F η tmp os, G.Ok R F H2 σ η (tms os (x :: xs) ++ tmp) ∧ Pls G H2 σ η os (x :: xs) ∧ EvP G W false R F H2 σ tmp (go os η) Q := by
  obtain ⟨R, F, η, tmp, o, h⟩ := h
  refine ⟨R, F, η, tmp, o, ?_⟩
  simp only [evLc] at h
  cases e : f η with
  | err => rw [e] at h; exact h
  | exc c p η' => rw [e] at h; exact h
  | ok r =>
    obtain ⟨x, η1⟩ := r
    rw [e] at h
    by_cases hc : chk x η1 = true
    · have main : ∀ (F1 H1 : Hp) (u : V), Same F F1 → G.Ok R F1 H1 σ η1 (tms [x] [u] ++ tmp) → (∀ i p, x = .pl i p → PlO G.ca H1 σ η1 i p u) →
          (∃ R F η tmp ox, G.Ok R F H1 σ η (tms [ox] [u] ++ tmp) ∧ (∀ i p, ox = .pl i p → PlO G.ca H1 σ η i p u) ∧ chk ox η = true) ∧
          IA G W fs σ H1 fun xs H2 => ∃ R F η tmp os, G.Ok R F H2 σ η (tms os (u :: xs) ++ tmp) ∧ Pls G H2 σ η os (u :: xs) ∧ EvP G W false R F H2 σ tmp (go os η) Q := by
        intro F1 H1 u sf o1 hp
        refine ⟨⟨R, F1, η1, tmp, x, o1, hp, hc⟩, R, F1, η1, tms [x] [u] ++ tmp, o1, ?_⟩
        simp only [TV.R.bind] at h
        rw [if_pos hc] at h
        cases e2 : evL fs η1 with
        | err => rw [e2] at h; exact h
        | exc c p η' =>
          rw [e2] at h
          exact fun F' H' d s1 o' ex => h F' H' d (sf.trans s1) (Ok.drop o') ex
        | ok r2 =>
          obtain ⟨os, η2⟩ := r2
          rw [e2] at h
          dsimp only at h
          by_cases hst : stay x (fs.all (·.1)) η1 η2 = true
          · rw [if_pos hst] at h
            intro F' H' us s1 s2 o' pl
            refine ⟨R, F', η2, tmp, x :: os, ?_, ?_, EvP.shift h (sf.trans s1) H'⟩
            · cases x with
              | v t => simpa [tms] using o'
              | pl i p => simpa [tms] using o'
            · cases x with
              | v t => exact ⟨u, us, rfl, pl⟩
              | pl i p => exact ⟨u, us, rfl, (hp i p rfl).stay hst s2, pl⟩
          · rw [if_neg hst] at h
            exact False.elim h
      cases x with
      | v t => exact fun F' H' v s1 _ o' => main F' H' v s1 (by simpa [tms] using o') (fun _ _ e => by cases e)
      | pl i p => exact fun F' H' v s1 _ o' hp => main F' H' v s1 (by simpa [tms] using o') (fun _ _ e => by cases e; exact hp)
    · simp only [TV.R.bind] at h
      rw [if_neg hc] at h
      exact False.elim h
theorem kind_own {ox : Opd} {x : V} {t : T} (o : G.Ok R F H σ η (tms [ox] [x] ++ tmp)) (hp : ∀ i p, ox = .pl i p → PlO G.ca H σ η i p x) (hk : kindO η ox = some t) : ∃ as, Own G.ca F H t x as := by
  cases ox with
  | v u =>
    simp only [kindO] at hk
    obtain rfl := Option.some.inj hk
    exact Ok.top (show G.Ok R F H σ η ((x, u) :: tmp) from o)
  | pl i p =>
    simp only [kindO] at hk
    obtain ⟨v, an, ar, at', hp', _, w, _⟩ := Ok.focus o hk
    obtain rfl := (hp i p rfl).inj hp'
    exact ⟨an, w⟩
theorem own_list {o : Bool} {ts : List T} {x : V} {as : List Addr} {ca : Nat → Addr} (w : Own ca F H (.lst o ts) x as) (e : Same F H) : ∃ a vs, x = .ref a ∧ Rd H a (.lst vs) := by
  have := Own.view e _ _ _ w
  simp only [View] at this
  obtain ⟨a, vs, h1, h2, _⟩ := this
  exact ⟨a, vs, h1, h2⟩
theorem own_dict {o : Bool} {ks ts : List T} {x : V} {as : List Addr} {ca : Nat → Addr} (w : Own ca F H (.dic o ks ts) x as) (e : Same F H) : ∃ a vs, x = .ref a ∧ DicAt H a ks vs := by
  have := Own.view e _ _ _ w
  simp only [View] at this
  obtain ⟨a, vs, h1, h2, _⟩ := this
  exact ⟨a, vs, h1, h2⟩
def bmTy : BM → String
  | .get => "dict" | .setdefault => "dict"
  | _ => "list"
theorem bm_ty {K : PySem.W.Frag} {m : BM} {x : V} (h : ∃ R F η tmp ox, G.Ok R F H σ η (tms [ox] [x] ++ tmp) ∧ (∀ i p, ox = .pl i p → PlO G.ca H σ η i p x) ∧ chkB m ox η = true) : L2.tyV K (bmTy m) x H := by
  obtain ⟨R, F, η, tmp, ox, o, hp, hc⟩ := h
  unfold chkB at hc
  split at hc
  · rename_i hk
    obtain ⟨as, w⟩ := kind_own o hp hk
    obtain ⟨a, vs, rfl, hl⟩ := own_list w o.same
    have : bmTy m = "list" := by cases m <;> simp at hc <;> rfl
    rw [this]
    exact .inl ⟨rfl, vs, .inl hl⟩
  · rename_i hk
    obtain ⟨as, w⟩ := kind_own o hp hk
    obtain ⟨a, vs, rfl, hl⟩ := own_dict w o.same
    have : bmTy m = "dict" := by cases m <;> simp at hc <;> rfl
    rw [this]
    rcases hl with ⟨kk, e, l, hx⟩ | ⟨kk, e, l, hx⟩
    · exact .inr (.inr (.inl ⟨rfl, .inl ⟨_, hx⟩⟩))
    · exact .inr (.inr (.inl ⟨rfl, .inr ⟨_, hx⟩⟩))
  · cases hc
/-! ### reading methods -/
theorem bm_read {m : BM} {os : List Opd} {vs : List V} {Q : VK} (hm : bmW m = false) (o : G.Ok R F H σ η (tms os vs ++ tmp)) (pl : Pls G H σ η os vs) (h : EvP G W false R F H σ tmp (bmGo m os η) Q) : rF G.ca (bmR m) vs H Q := by
  unfold bmGo at h
  rw [hm] at h
  dsimp only at h
  cases hd : drs η os with
  | none => rw [hd] at h; exact False.elim h
  | some ts =>
    rw [hd] at h
    dsimp only at h
    cases hg : bmR m ts with
    | none => rw [hg] at h; exact False.elim h
    | some w =>
      rw [hg] at h
      exact ⟨F, ts, w, o.same, drs_cv o tms_mem pl hd, hg, Ok.ret (Ok.drop o) fun F'' H'' v s3 o'' => h F'' H'' v s3 (fun z => by cases z) o''⟩
/-! ### writing methods -/
/-- the answer of a method that writes -/
def rW (ca : Nat → Addr) (m : BM) : V → List V → Hp → VK → Prop := fun x xs H Q => ∃ F n us an al r n', Same F H ∧ Own ca F H n x an ∧ Owns ca F H us xs al ∧ (∀ a, (an ++ al).count a ≤ 1) ∧ bmT m n us = some (r, n') ∧
  ∀ H' v an' al', (∀ a, a ∉ an → ∀ o, H a = some o → H' a = some o) → Own ca F H' n' x an' → Own ca F H' r v al' → (∀ a, (an' ++ al').count a ≤ (an ++ al).count a) → Q v H'
theorem bm_write {m : BM} {os : List Opd} {x : V} {xs : List V} {Q : VK} (hm : bmW m = true) (o : G.Ok R F H σ η (tms os (x :: xs) ++ tmp)) (pl : Pls G H σ η os (x :: xs)) (h : EvP G W false R F H σ tmp (bmGo m os η) Q) : rW G.ca m x xs H Q := by
  unfold bmGo at h
  rw [hm] at h
  split at h
  · rename_i e; cases e
  · rename_i i p _
    simp only [Pls] at pl
    obtain ⟨v, r, e, hp, e2⟩ := pl
    cases e
    subst e2
    split at h
    · rename_i n hn
      split at h
      · rename_i r n' hb
        obtain ⟨an, al, w, hl, hf, hc, hF, back⟩ := Ok.write (l := []) (by simpa [tms] using o) hn hp
        have hl : al = [] := hl
        subst hl
        refine ⟨F, n, [], an, [], r, n', o.same, w, by simp [Owns], hc, hb, fun H' v an' al' k w' wr hle => ?_⟩
        exact h F H' v (Same.refl F) (fun z => by cases z) (back H' n' an' [(v, r)] al' k w' (by simp only [OkT]; exact ⟨al', [], by simp, wr, rfl⟩) hle)
      · exact False.elim h
    · exact False.elim h
  · rename_i i p ox _
    simp only [Pls] at pl
    obtain ⟨v, r, e, hp, pl⟩ := pl
    cases e
    split at h
    · rename_i t η1 hk
      obtain ⟨y, e, hpy⟩ : ∃ y, xs = [y] ∧ ∀ i p, ox = .pl i p → PlO G.ca H σ η i p y := by
        cases ox with
        | v u =>
          obtain ⟨y, r, rfl, e⟩ := pl
          have e : r = [] := e
          subst e
          exact ⟨y, rfl, fun _ _ e => by cases e⟩
        | pl j q =>
          obtain ⟨y, r, rfl, e1, e⟩ := pl
          have e : r = [] := e
          subst e
          exact ⟨y, rfl, fun _ _ e => by cases e; exact e1⟩
      subst e
      obtain ⟨F1, s1, o1, kp⟩ := keep_ok (x := ox) (v := y) (show G.Ok R F H σ η (tms [ox] [y] ++ tmp) from o) rfl (fun i p e _ => hpy i p e) hk
      split at h
      · rename_i n hn
        split at h
        · rename_i r n' hb
          obtain ⟨t0, ht0, _⟩ := get_some hn
          obtain ⟨an, al, w, hl, hf, hc, hF, back⟩ := Ok.write (l := [(y, t)]) o1 hn (kp i p _ (fun _ => hp) ⟨t0, ht0⟩)
          simp only [OkT] at hl
          obtain ⟨a1, a2, rfl, wt, rfl⟩ := hl
          refine ⟨F1, n, [t], an, a1 ++ [], r, n', o1.same, w, by rw [List.append_nil]; exact Owns.one wt, hc, hb, fun H' v an' al' k w' wr hle => ?_⟩
          exact h F1 H' v s1 (fun z => by cases z) (back H' n' an' [(v, r)] al' k w' (by simp only [OkT]; exact ⟨al', [], by simp, wr, rfl⟩) hle)
        · exact False.elim h
      · exact False.elim h
    · exact False.elim h
  · exact False.elim h
end
end TV
/-! methods of lists and dicts: what the built-ins do -/
namespace TV
open PySem L2 PySem.Spec
theorem bmT_append {n r n' : T} {us : List T} (h : bmT .append n us = some (r, n')) : ∃ ts t, n = .lst true ts ∧ us = [t] ∧ ts.length < sizeL ∧ r = .non ∧ n' = .lst true (ts ++ [t]) := by
  unfold bmT at h
  split at h <;> try contradiction
  split at h
  · cases h
    exact ⟨_, _, rfl, rfl, by assumption, rfl, rfl⟩
  · cases h
theorem bmT_pop {n r n' : T} {us : List T} (h : bmT .pop n us = some (r, n')) : ∃ ts j, n = .lst true ts ∧ ts[j]? = some r ∧ n' = .lst true (ts.eraseIdx j) ∧ ((us = [] ∧ idxOf ts.length (-1) = some j) ∨ ∃ i, us = [.int i] ∧ idxOf ts.length i = some j) := by
  unfold bmT at h
  split at h <;> try contradiction
  · split at h
    · rename_i ts _ _ j hj
      obtain ⟨x, hx, e⟩ := Option.map_eq_some_iff.mp h
      cases e
      exact ⟨ts, j, rfl, hx, rfl, .inl ⟨rfl, hj⟩⟩
    · cases h
  · split at h
    · rename_i ts i _ _ j hj
      obtain ⟨x, hx, e⟩ := Option.map_eq_some_iff.mp h
      cases e
      exact ⟨ts, j, rfl, hx, rfl, .inr ⟨i, rfl, hj⟩⟩
    · cases h
theorem bmT_extend {n r n' : T} {us : List T} (h : bmT .extend n us = some (r, n')) : ∃ ts o zs, n = .lst true ts ∧ us = [.lst o zs] ∧ ts.length + zs.length ≤ sizeL ∧ fzs zs = true ∧ r = .non ∧ n' = .lst true (ts ++ zs) := by
  unfold bmT at h
  split at h <;> try contradiction
  split at h
  · rename_i hh
    simp only [Bool.and_eq_true, decide_eq_true_eq] at hh
    cases h
    exact ⟨_, _, _, rfl, rfl, hh.1, hh.2, rfl, rfl⟩
  · cases h
theorem bmT_remove {n r n' : T} {us : List T} (h : bmT .remove n us = some (r, n')) : ∃ ts t j, n = .lst true ts ∧ us = [t] ∧ (T.lst true ts).data = true ∧ t.data = true ∧ (ts.findIdx? fun y => eqT y t) = some j ∧ r = .non ∧ n' = .lst true (ts.eraseIdx j) := by
  unfold bmT at h
  split at h <;> try contradiction
  split at h
  · rename_i hh
    simp only [Bool.and_eq_true] at hh
    obtain ⟨j, hj, e⟩ := Option.map_eq_some_iff.mp h
    cases e
    exact ⟨_, _, _, rfl, rfl, hh.1, hh.2, hj, rfl, rfl⟩
  · cases h
theorem bmR_index {us : List T} {r : T} (h : bmR .index us = some r) : ∃ o ts t j, us = [.lst o ts, t] ∧ (T.lst o ts).data = true ∧ t.data = true ∧ (ts.findIdx? fun y => eqT y t) = some j ∧ r = .int j := by
  unfold bmR at h
  split at h <;> try contradiction
  split at h
  · rename_i hh
    simp only [Bool.and_eq_true] at hh
    obtain ⟨j, hj, e⟩ := Option.map_eq_some_iff.mp h
    cases e
    exact ⟨_, _, _, _, rfl, hh.1, hh.2, hj, rfl⟩
  · cases h
theorem bmR_count {us : List T} {r : T} (h : bmR .count us = some r) : ∃ o ts t, us = [.lst o ts, t] ∧ (T.lst o ts).data = true ∧ t.data = true ∧ r = .int (ts.countP fun y => eqT y t) := by
  unfold bmR at h
  split at h <;> try contradiction
  split at h
  · rename_i hh
    simp only [Bool.and_eq_true] at hh
    cases h
    exact ⟨_, _, _, rfl, hh.1, hh.2, rfl⟩
  · cases h
/-- what a dict gives at a key -/
def getV (ks vs : List T) (k d : T) : T := match kpos ks k with | some j => vs[j]?.getD .non | none => d
theorem bmR_get {us : List T} {r : T} (h : bmR .get us = some r) : ∃ o ks vs k, keyFit ks k = true ∧ ((us = [.dic o ks vs, k] ∧ r = getV ks vs k .non) ∨ ∃ d, us = [.dic o ks vs, k, d] ∧ plainD d = true ∧ r = getV ks vs k d) := by
  unfold bmR at h
  split at h <;> try contradiction
  · split at h
    · cases h
      exact ⟨_, _, _, _, by assumption, .inl ⟨rfl, rfl⟩⟩
    · cases h
  · split at h
    · rename_i hh
      rw [Bool.and_eq_true] at hh
      cases h
      exact ⟨_, _, _, _, hh.1, .inr ⟨_, rfl, hh.2, rfl⟩⟩
    · cases h
section
variable {X : Cx} {ca : Nat → Addr} {F H : Hp} {σ : St}
theorem Owns.erase : ∀ {ts : List T} {vs : List V} {as : List Addr} {j : Nat} {t : T}, Owns ca F H ts vs as → ts[j]? = some t → ∃ v a1 rest, vs[j]? = some v ∧ Own ca F H t v a1 ∧ Owns ca F H (ts.eraseIdx j) (vs.eraseIdx j) rest ∧ ∀ a, as.count a = (a1 ++ rest).count a
  | [], _, _, _, _, _, e => by simp at e
  | t :: ts, vs, as, 0, x, h, e => by
    simp only [Owns] at h
    obtain ⟨v, r, a1, a2, rfl, rfl, h1, h2⟩ := h
    have ex : t = x := by simpa using e
    subst ex
    exact ⟨v, a1, a2, by simp, h1, by simpa using h2, fun _ => rfl⟩
  | t :: ts, vs, as, j + 1, x, h, e => by
    simp only [Owns] at h
    obtain ⟨v, r, a1, a2, rfl, rfl, h1, h2⟩ := h
    obtain ⟨w, b1, rest, q1, q2, q3, q4⟩ := Owns.erase (j := j) (t := x) h2 (by simpa using e)
    refine ⟨w, b1, a1 ++ rest, by simpa using q1, q2, ?_, fun a => ?_⟩
    · simp only [List.eraseIdx_cons_succ, Owns]
      exact ⟨v, _, a1, rest, rfl, rfl, h1, q3⟩
    · have := q4 a
      simp only [List.count_append] at *; omega
theorem own_olist {ts : List T} {x : V} {an : List Addr} (w : Own ca F H (.lst true ts) x an) : ∃ a vs r, x = .ref a ∧ an = a :: r ∧ H a = some (.lst vs) ∧ Owns ca F H ts vs r := by simpa only [Own] using w
/-- the owned list is laid anew -/
theorem relay {a : Addr} {r al an' : List Addr} {ts' : List T} {vs' : List V} (w : Owns ca F (upd H a (.lst vs')) ts' vs' an') : Own ca F (upd H a (.lst vs')) (.lst true ts') (.ref a) (a :: an') := by
  simp only [Own]
  exact ⟨a, vs', an', rfl, rfl, upd_same, w⟩
theorem keep_upd {a : Addr} {u : HO} {r : List Addr} : ∀ b, b ∉ a :: r → ∀ o, H b = some o → upd H a u b = some o := fun b hb o e => by
  rw [upd_ne (fun z => hb (by simp [z]))]; exact e
theorem fr_upd {a : Addr} {u : HO} {r : List Addr} (h : ∀ b ∈ r, b ≠ a) : ∀ b ∈ r, ∀ o, H b = some o → upd H a u b = some o := fun b hb o e => by
  rw [upd_ne (h b hb)]; exact e
theorem ne_of_count {a : Addr} {l m : List Addr} (h : ∀ b, ((a :: l) ++ m).count b ≤ 1) : ∀ b ∈ l ++ m, b ≠ a := fun b hb e => by
  subst e
  have := h b
  have h1 := List.count_pos_iff.mpr hb
  simp only [List.cons_append, List.count_cons_self] at this
  omega
theorem owns_one {t : T} {xs : List V} {al : List Addr} (w : Owns ca F H [t] xs al) : ∃ y, xs = [y] ∧ Own ca F H t y al := by
  simp only [Owns] at w
  obtain ⟨v, r, a1, a2, rfl, rfl, h1, rfl, rfl⟩ := w
  exact ⟨v, rfl, by rw [List.append_nil]; exact h1⟩
theorem mt_appendF : MtR X "list.append" (rW ca .append) := by
  intro pins s σ H x xs v us Q I rx rxs ⟨F, n, us', an, al, r, n', e, w, wo, hc, hb, q⟩
  obtain ⟨ts, t, rfl, rfl, hl, rfl, rfl⟩ := bmT_append hb
  obtain ⟨a, vs, rr, rfl, rfl, ha, wv⟩ := own_olist w
  obtain ⟨y, rfl, wt⟩ := owns_one wo
  have ne := ne_of_count hc
  refine mt_append pins s σ H _ _ v us Q I rx rxs ⟨a, vs, y, rfl, rfl, ha, by rw [← wv.length]; exact sizeL_lt hl, q _ _ (a :: (rr ++ al)) [] keep_upd (relay (r := rr) (al := al) ?_) (by simp [Own]) fun b => by simp⟩
  exact Owns.append (Owns.frame (Same.refl F) _ _ _ (fr_upd fun b hb => ne b (by simp [hb])) wv) (Owns.one (Own.frame (Same.refl F) _ _ _ (fr_upd fun b hb => ne b (by simp [hb])) wt))
theorem ixN_last {n j : Nat} (h : ixN n (-1) = some j) : j = n - 1 ∧ 0 < n := by
  unfold ixN at h
  rw [if_neg (by omega)] at h
  split at h
  · have := Option.some.inj h; omega
  · cases h
theorem mt_popF : MtR X "list.pop" (rW ca .pop) := by
  intro pins s σ H x xs v us Q I rx rxs ⟨F, n, us', an, al, r, n', e, w, wo, hc, hb, q⟩
  obtain ⟨ts, j, rfl, hj, rfl, hi⟩ := bmT_pop hb
  obtain ⟨a, vs, rr, rfl, rfl, ha, wv⟩ := own_olist w
  obtain ⟨y, a1, rest, hy, wy, wr, hcn⟩ := wv.erase hj
  have hlen := wv.length
  have ne : ∀ b ∈ a1 ++ rest, b ≠ a := fun b hb => ne_of_count hc b (by
    have := hcn b
    have : b ∈ rr := mem_count (this.symm) hb
    simp [this])
  have fin : Q y (upd H a (.lst (vs.eraseIdx j))) := q _ _ (a :: rest) a1 keep_upd (relay (r := rr) (al := al) (Owns.frame (Same.refl F) _ _ _ (fr_upd fun b hb => ne b (by simp [hb])) wr)) (Own.frame (Same.refl F) _ _ _ (fr_upd fun b hb => ne b (by simp [hb])) wy) fun b => by
    have := hcn b
    simp only [List.cons_append, List.count_cons, List.count_append] at *; omega
  rcases hi with ⟨rfl, hi⟩ | ⟨i, rfl, hi⟩
  · simp only [Owns] at wo
    obtain ⟨rfl, rfl⟩ := wo
    have hi : ixN ts.length (-1) = some j := hi
    obtain ⟨rfl, hpos⟩ := ixN_last hi
    rw [hlen] at hy fin
    refine mt_pop pins s σ H _ _ v us Q I rx rxs ⟨a, vs, y, rfl, rfl, ha, hy, ?_⟩
    rw [PyProof.Rows.Copied.eraseIdx_last] at fin
    exact fin
  · obtain ⟨z, rfl, wz⟩ := owns_one wo
    simp only [Own] at wz
    obtain ⟨rfl, rfl⟩ := wz
    obtain ⟨hs, h1, h2, h3⟩ := ixN_seq hi
    have hz : vs.length ≤ sizeLine := (I.hok a _ ha).1
    have hsl := sizeLine_eq
    exact mt_popAt pins s σ H _ _ v us Q I rx rxs ⟨a, vs, i, j, y, rfl, rfl, ha, by omega, by omega, by rw [← hlen]; exact hs, hy, fin⟩
def rExtR : V → List V → Hp → VK → Prop := fun x vs H Q => ∃ l b xs zs, x = .ref l ∧ vs = [.ref b] ∧ H l = some (.lst xs) ∧ Rd H b (.lst zs) ∧ xs.length + zs.length ≤ sizeLine ∧ Q .non (upd H l (.lst (xs ++ zs)))
theorem mt_extR : MtR X "list.extend" rExtR := by
  intro pins s σ H x vs v us Q I rx rv h
  obtain ⟨l, b, xs, zs, rfl, rfl, hH, hB, hz, q⟩ := h
  cases rx
  obtain ⟨u, rfl, ru⟩ := rv.one
  cases ru
  obtain ⟨z, its, n, r, hl, e⟩ := I.lstM hH
  obtain ⟨z2, its2, n2, r2, hl2, e2⟩ := Inv.lstR I hB
  have hsz : its.toArray.size + its2.toArray.size ≤ sizeLine := by rw [List.size_toArray, List.size_toArray]; omega
  have hlong : ¬ (!its.toArray.isEmpty && Builtin.List.listTooLong (its.toArray.size + its2.toArray.size)) = true := by
    rw [notLongL hsz, Bool.and_false]
    exact Bool.false_ne_true
  refine call_meets PySem.F.slot_list_extend ⟨_, e, rfl⟩ PySem.F.entry_list_extend (PySem.F.args_list_extend_2 _ _)
    (PySem.AutoSeq1.list_extend_list_list_0 l its.toArray n b its2.toArray n2 hlong (by rw [List.size_toArray]; omega) (by omega)) ⟨e, e2, ?_⟩
  refine ⟨.non, _, I.lset (its' := its ++ its2) hH e (by simp) (r.append r2) ?_, rfl, q⟩
  rw [List.length_append]
  omega
theorem mt_extF : MtR X "list.extend" (rW ca .extend) := by
  intro pins s σ H x xs v us Q I rx rxs ⟨F, n, us', an, al, r, n', e, w, wo, hc, hb, q⟩
  obtain ⟨ts, o, zs, rfl, rfl, hl, hf, rfl, rfl⟩ := bmT_extend hb
  obtain ⟨a, vs, rr, rfl, rfl, ha, wv⟩ := own_olist w
  obtain ⟨y, rfl, wt⟩ := owns_one wo
  have ne := ne_of_count hc
  obtain ⟨b, ys, rfl, hb2, hv, _⟩ : CV ca F H (.lst o zs) y := wt.cv hf e
  have hlen := hv.length
  have hlen2 := wv.length
  refine mt_extR pins s σ H _ _ v us Q I rx rxs ⟨a, b, vs, ys, rfl, rfl, ha, hb2, by rw [← hlen, ← hlen2]; exact sizeL_le hl, q _ _ (a :: rr) [] keep_upd (relay (r := rr) (al := al) ?_) (by simp [Own]) fun b => by simp only [List.append_nil, List.count_append]; omega⟩
  rw [← List.append_nil rr]
  exact Owns.append (Owns.frame (Same.refl F) _ _ _ (fr_upd fun b hb => ne b (by simp [hb])) wv) (Owns.mk_fzs hf hv)
theorem any_at {t : T} : ∀ (ts : List T), (toDs ts).findIdx? (fun y => PyData.eqv y t.toD) = ts.findIdx? fun y => eqT y t
  | [] => rfl
  | a :: ts => by
    simp only [toDs, List.findIdx?_cons, any_at ts]
    rfl
theorem mt_remF {k : Nat} (hr : Room k X.A) : MtR X "list.remove" (rW ca .remove) := by
  intro pins s σ H x xs v us Q I rx rxs ⟨F, n, us', an, al, r, n', e, w, wo, hc, hb, q⟩
  obtain ⟨ts, t, j, rfl, rfl, hd, hdt, hj, rfl, rfl⟩ := bmT_remove hb
  obtain ⟨a, vs, rr, rfl, rfl, ha, wv⟩ := own_olist w
  obtain ⟨y, rfl, wt⟩ := owns_one wo
  cases rx
  obtain ⟨u, rfl, ru⟩ := rxs.one
  have hjl : j < ts.length := (List.findIdx?_eq_some_iff_getElem.mp hj).1
  obtain ⟨y2, a1, rest, hy, wy, wr, hcn⟩ := wv.erase (List.getElem?_eq_getElem hjl)
  have ne : ∀ b ∈ a1 ++ rest, b ≠ a := fun b hb => ne_of_count hc b (by
    have := hcn b
    have : b ∈ rr := mem_count (this.symm) hb
    simp [this])
  obtain ⟨hz, its, m, rv, hl, e1⟩ := I.lstM ha
  have h2 := data_plain hd
  have h3 := data_depth hd
  have h4 := data_depth hdt
  simp only [T.toD, PyData.plain] at h2
  simp only [T.toD, PyData.depth] at h3
  obtain ⟨as, r1⟩ := views_reads I ts vs its (Owns.views e _ _ _ wv) h2 rv
  obtain ⟨bs, r2⟩ := view_reads I t y u (Own.view e _ _ _ wt) (data_plain hdt) ru
  have hun := hr.un
  refine PySem.SeqAt.remove_list_data (vs := its.toArray) ⟨_, e1, rfl, _, rfl⟩ (by simpa using r1) r2 h2 (data_plain hdt) (by omega) (by unfold PySem.SeqAt.dataPlace; rw [any_at]; exact hj) (by rw [List.size_toArray, ← hl]; exact hz) ?_
  refine ⟨.non, _, I.lset (its' := its.eraseIdx j) ha e1 ?_ (rv.eraseIdx j) ?_, rfl, q _ _ (a :: rest) [] keep_upd (relay (r := rr) (al := al) (Owns.frame (Same.refl F) _ _ _ (fr_upd fun b hb => ne b (by simp [hb])) wr)) (by simp [Own]) fun b => ?_⟩
  · show its.toArray.eraseIdxIfInBounds j = (its.eraseIdx j).toArray
    rw [List.eraseIdxIfInBounds_toArray]
  · have := len_erase vs j
    omega
  · have := hcn b
    simp only [List.append_nil, List.cons_append, List.count_cons, List.count_append] at *; omega
/-! ### reading -/
theorem mt_idxF {k : Nat} (hr : Room k X.A) : MtR X "list.index" (fun x xs => rF ca (bmR .index) (x :: xs)) := by
  intro pins s σ H x xs v us Q I rx rxs ⟨F, us', r, e, c, hg, q⟩
  obtain ⟨o, ts, t, j, rfl, hd, hdt, hj, rfl⟩ := bmR_index hg
  obtain ⟨x1, y, e1, c1, c2⟩ := cvs2 c
  cases e1
  obtain ⟨a, vs, rfl, ha, hv, hf⟩ := c1
  cases rx
  obtain ⟨u, rfl, ru⟩ := rxs.one
  obtain ⟨hz, its, m, rv, hl, e1⟩ := Inv.lstR I ha
  have h2 := data_plain hd
  have h3 := data_depth hd
  simp only [T.toD, PyData.plain] at h2
  simp only [T.toD, PyData.depth] at h3
  obtain ⟨as, r1⟩ := views_reads I ts vs its (Views.mono e _ _ hv) h2 rv
  obtain ⟨bs, r2⟩ := CV.reads I e c2 hdt ru
  have hun := hr.un
  obtain ⟨hjs, hit, hno⟩ := PySem.SeqAt.hit_at (vs := its.toArray) (d := t.toD) (by simpa using r1) h2 (j := j) (by unfold PySem.SeqAt.dataPlace; rw [any_at]; exact hj)
  have hsl := sizeLine_eq
  have hjl : j < its.length := by simpa using hjs
  refine call_meets PySem.F.slot_list_index ⟨_, e1, rfl⟩ PySem.F.entry_list_index (PySem.F.args_list_index_2 _ _)
    (PySem.SeqAt.list_indexAt a its.toArray m none #[] u (fun u => PyData.eqv (PySem.SeqAt.readOf s.heap u) t.toD) j hjs (by omega) hit hno) ⟨e1, PySem.SeqAt.items_plain (by simpa using r1) r2 h2 (data_plain hdt) (by have := data_depth hdt; omega), ?_⟩
  exact ⟨.int (j : Nat), H, I.tok _, ⟨_, rfl⟩, q.int⟩
theorem cnt_at {t : T} : ∀ (ts : List T), (toDs ts).countP (fun y => PyData.eqv y t.toD) = ts.countP fun y => eqT y t
  | [] => rfl
  | a :: ts => by
    simp only [toDs, List.countP_cons, cnt_at ts]
    rfl
theorem mt_cntF {k : Nat} (hr : Room k X.A) : MtR X "list.count" (fun x xs => rF ca (bmR .count) (x :: xs)) := by
  intro pins s σ H x xs v us Q I rx rxs ⟨F, us', r, e, c, hg, q⟩
  obtain ⟨o, ts, t, rfl, hd, hdt, rfl⟩ := bmR_count hg
  obtain ⟨x1, y, e1, c1, c2⟩ := cvs2 c
  cases e1
  obtain ⟨a, vs, rfl, ha, hv, hf⟩ := c1
  cases rx
  obtain ⟨u, rfl, ru⟩ := rxs.one
  obtain ⟨hz, its, m, rv, hl, e1⟩ := Inv.lstR I ha
  have h2 := data_plain hd
  have h3 := data_depth hd
  simp only [T.toD, PyData.plain] at h2
  simp only [T.toD, PyData.depth] at h3
  obtain ⟨as, r1⟩ := views_reads I ts vs its (Views.mono e _ _ hv) h2 rv
  obtain ⟨bs, r2⟩ := CV.reads I e c2 hdt ru
  have hun := hr.un
  refine PySem.SeqAt.count_list_data (vs := its.toArray) ⟨_, e1, rfl, _, rfl⟩ (by simpa using r1) r2 h2 (data_plain hdt) (by have := data_depth hdt; omega) ?_
  rw [cnt_at]
  exact ⟨.int _, H, I.tok _, ⟨_, rfl⟩, q.int⟩
theorem dicAt_len {a : Addr} {ks : List T} {vs : List V} (d : DicAt H a ks vs) : ks.length = vs.length := by
  rcases d with ⟨kk, e, l, _⟩ | ⟨kk, e, l, _⟩ <;> rw [e, List.length_map, l]
/-- what the dict holds there, or the other value -/
theorem get_fin {ks ts : List T} {vs : List V} {k d : T} {z : V} {Q : VK} {a : Addr} (da : DicAt H a ks vs) (hv : Views ca F ts vs) (hf : fzs ts = true) (hz : Ret ca F H d Q → Q z H) (q : Ret ca F H (getV ks ts k d) Q) : Q (((kpos ks k).bind (vs[·]?)).getD z) H := by
  unfold getV at q
  cases hp : kpos ks k with
  | none => rw [hp] at q; exact hz q
  | some j =>
    rw [hp] at q
    have hj := kpos_lt hp
    rw [dicAt_len da, ← hv.length] at hj
    have ht : ts[j]? = some ts[j] := List.getElem?_eq_getElem hj
    obtain ⟨w, hw, vw⟩ := hv.get ht
    simp only [ht, Option.getD_some] at q
    simp only [Option.bind_some, hw, Option.getD_some]
    exact q.old H _ (Same.refl H) vw (fzs_mem hf (List.mem_of_getElem? ht))
theorem plainD_view {d : T} {z : V} (h : plainD d = true) (c : CV ca F H d z) : View ca F d z ∧ d.fz = true := by
  cases d with
  | tup ts =>
    obtain ⟨a, vs, rfl, x, y, f⟩ := c
    simp only [View]
    exact ⟨⟨a, vs, rfl, x, y⟩, f⟩
  | lst o ts => simp [plainD] at h
  | dic o ks ts => simp [plainD] at h
  | obj o c ns ts => simp [plainD] at h
  | non => exact ⟨by simpa only [View, CV] using c, rfl⟩
  | bl _ => exact ⟨by simpa only [View, CV] using c, rfl⟩
  | int _ => exact ⟨by simpa only [View, CV] using c, rfl⟩
  | str _ => exact ⟨by simpa only [View, CV] using c, rfl⟩
theorem mt_getF {k : Nat} (hr : Room k X.A) : MtR X "dict.get" (fun x xs => rF ca (bmR .get) (x :: xs)) := by
  intro pins s σ H x xs v us Q I rx rxs ⟨F, us', r, e, c, hg, q⟩
  have hun := hr.un
  obtain ⟨o, ks, ts, k, hk, ⟨rfl, rfl⟩ | ⟨d, rfl, hpd, rfl⟩⟩ := bmR_get hg
  · obtain ⟨x1, y, e1, c1, c2⟩ := cvs2 c
    cases e1
    obtain ⟨a, vs, rfl, ha, hv, hf⟩ := c1
    cases rx
    obtain ⟨u, rfl, ru⟩ := rxs.one
    obtain ⟨H2, g, i1, i2⟩ := dic_any (X := X) (pins := pins) (σ := σ) ha hk e c2
    exact d_get1 (by omega) (i1 s I) g ru fun w' s' I' rw' => ⟨_, H, i2 s' I', rw', get_fin ha hv hf Ret.non q⟩
  · obtain ⟨x1, y, z, e1, c1, c2, c3⟩ := cvs3 c
    cases e1
    obtain ⟨a, vs, rfl, ha, hv, hf⟩ := c1
    cases rx
    cases rxs with
    | cons ru rt =>
      cases rt with
      | cons rz r0 =>
        cases r0
        obtain ⟨H2, g, i1, i2⟩ := dic_any (X := X) (pins := pins) (σ := σ) ha hk e c2
        exact d_get2 (by omega) (i1 s I) g ru rz fun w' s' I' rw' => ⟨_, H, i2 s' I', rw', get_fin ha hv hf (fun q => q.old H z (Same.refl H) (plainD_view hpd c3).1 (plainD_view hpd c3).2) q⟩
end
section
variable {X : Cx} {G : Par} {W : WX} {C : Ctx} {R F H : Hp} {σ : St} {η : Env} {tmp : List (V × T)}
def rM (ca : Nat → Addr) (m : BM) : V → List V → Hp → VK → Prop := fun x xs H Q => if bmW m = true then rW ca m x xs H Q else rF ca (bmR m) (x :: xs) H Q
theorem bm_ie {K : PySem.W.Frag} {m : BM} {o : CE} {es : List CE} {Q : VK} (h : IE G W false (evE C (.bm m o es)) σ H Q) :
    IE G W (pu o) (evE C o) σ H fun x H1 => L2.tyV K (bmTy m) x H1 ∧ IA G W (clos C es) σ H1 fun xs H2 => rM G.ca m x xs H2 Q := by
  have h0 : IE G W false (fun η => (evLc (chkB m) (evE C o) ((clos C es).all (·.1)) (evL (clos C es)) η).bind fun x => bmGo m x.1 x.2) σ H Q := ie_eq (fun η => by
    have e : evL (clos C es) = evs C es := funext fun η => (evs_evL C es η).symm
    simp only [evE, clos_pu]
    rw [e]) h
  refine ie_mono (ie_consC (bf := pu o) h0) fun x H1 ⟨h1, h2⟩ => ⟨bm_ty h1, ia_mono h2 fun xs H2 ⟨R, F, η, tmp, os, ok, pl, ev⟩ => ?_⟩
  unfold rM
  split
  · exact bm_write (by assumption) ok pl ev
  · exact bm_read (by simpa using ‹¬ bmW m = true›) ok pl ev
def bmName : BM → Str
  | .append => "append" | .pop => "pop" | .extend => "extend" | .remove => "remove" | .index => "index" | .count => "count" | .get => "get" | .setdefault => "setdefault"
variable {k : Nat}
theorem pe_bm0I (hr : Room k X.A) {m : BM} {o : Expr} {co : CE} {apos cpos : Pos} (hm : m ≠ .setdefault) (ho : PE X o (IE G W (pu co) (evE C co))) (hbase : attributeBase o (bmName m) X.env (eval o X.env) = eval o X.env) (hline : (apos.endLine == cpos.line) = true) :
    PE X (.Call (.Attribute o (bmName m) apos) [] [] cpos) (IE G W false (evE C (.bm m co []))) := by
  have go : ∀ {id : String}, PlainAttrs (bmTy m) → Slot (bmTy m) (bmName m) id → typeOf (.builtin id) = pure (.type "method_descriptor") → MtR X id (rM G.ca m) → PE X (.Call (.Attribute o (bmName m) apos) [] [] cpos) (IE G W false (evE C (.bm m co []))) := fun pa sl ty hM =>
    pe_by (pe_bm0 pa sl ty hM ho hbase hline) fun σ H Q h => ie_mono (bm_ie (K := X.K) h) fun x H1 ⟨h1, h2⟩ => ⟨h1, by
      have := ia_nil h2
      exact this⟩
  cases m with
  | append => exact go PySem.F.plainAttrs_list PySem.F.slot_list_append PySem.F.type_list_append mt_appendF
  | pop => exact go PySem.F.plainAttrs_list PySem.F.slot_list_pop PySem.F.type_list_pop mt_popF
  | extend => exact go PySem.F.plainAttrs_list PySem.F.slot_list_extend PySem.F.type_list_extend mt_extF
  | remove => exact go PySem.F.plainAttrs_list PySem.F.slot_list_remove PySem.F.type_list_remove (mt_remF hr)
  | index => exact go PySem.F.plainAttrs_list PySem.F.slot_list_index PySem.F.type_list_index (mt_idxF hr)
  | count => exact go PySem.F.plainAttrs_list PySem.F.slot_list_count PySem.F.type_list_count (mt_cntF hr)
  | get => exact go PySem.F.plainAttrs_dict PySem.F.slot_dict_get PySem.F.type_dict_get (mt_getF hr)
  | setdefault => exact absurd rfl hm
theorem pe_bmI (hr : Room k X.A) {m : BM} {o e : Expr} {es : List Expr} {co : CE} {ces : List CE} {apos cpos : Pos} (hm : m ≠ .setdefault) (ho : PE X o (IE G W (pu co) (evE C co))) (ha : PA X (e :: es) (IA G W (clos C ces)))
    (hbase : attributeBase o (bmName m) X.env (eval o X.env) = eval o X.env)
    (hfew : ((backTo cpos (starEach (e :: es) X.env)).all (fun x => !x.1) && (backToKw cpos (keywordEach [] X.env)).all (fun x => x.1.isSome)
      && decide ((e :: es).length + ([] : List Keyword).length + (if ([] : List Keyword).isEmpty then 0 else 1) < 30)) = true)
    (hline : (apos.endLine == cpos.line) = true) (hs : starEach (e :: es) X.env = (false, eval e X.env) :: starEach es X.env) (hplain : (backTo cpos (starEach es X.env)).any (·.1) = false) :
    PE X (.Call (.Attribute o (bmName m) apos) (e :: es) [] cpos) (IE G W false (evE C (.bm m co ces))) := by
  have go : ∀ {id : String}, PlainAttrs (bmTy m) → Slot (bmTy m) (bmName m) id → typeOf (.builtin id) = pure (.type "method_descriptor") → MtR X id (rM G.ca m) → PE X (.Call (.Attribute o (bmName m) apos) (e :: es) [] cpos) (IE G W false (evE C (.bm m co ces))) := fun pa sl ty hM =>
    pe_by (pe_bm pa sl ty hM ho ha hbase hfew hline hs hplain) fun σ H Q h => bm_ie (K := X.K) h
  cases m with
  | append => exact go PySem.F.plainAttrs_list PySem.F.slot_list_append PySem.F.type_list_append mt_appendF
  | pop => exact go PySem.F.plainAttrs_list PySem.F.slot_list_pop PySem.F.type_list_pop mt_popF
  | extend => exact go PySem.F.plainAttrs_list PySem.F.slot_list_extend PySem.F.type_list_extend mt_extF
  | remove => exact go PySem.F.plainAttrs_list PySem.F.slot_list_remove PySem.F.type_list_remove (mt_remF hr)
  | index => exact go PySem.F.plainAttrs_list PySem.F.slot_list_index PySem.F.type_list_index (mt_idxF hr)
  | count => exact go PySem.F.plainAttrs_list PySem.F.slot_list_count PySem.F.type_list_count (mt_cntF hr)
  | get => exact go PySem.F.plainAttrs_dict PySem.F.slot_dict_get PySem.F.type_dict_get (mt_getF hr)
  | setdefault => exact absurd rfl hm
end
end TV
/-! statements -/
namespace TV
open PySem L2
abbrev SClo := Env → Out
def EvS (G : Par) (W : WX) (R F : Hp) (D : Ends) (r : Out) : Prop :=
  match r with
  | .nx η' => ∀ F' H' σ', Same F F' → G.Ok R F' H' σ' η' [] → D.nx σ' H'
  | .bk η' => ∀ F' H' σ', Same F F' → G.Ok R F' H' σ' η' [] → D.bk σ' H'
  | .ct η' => ∀ F' H' σ', Same F F' → G.Ok R F' H' σ' η' [] → D.ct σ' H'
  | .rt t η' => ∀ F' H' σ' v, Same F F' → G.Ok R F' H' σ' η' [(v, t)] → D.rt v H'
  | .ex c p η' => ∀ F' H' σ' d, Same F F' → G.Ok R F' H' σ' η' [] → Exh G F' H' c p d → W (.ref (G.ca c)) d σ' H'
  | .er => False
/-- the reading of a statement that runs as f -/
def IS (G : Par) (W : WX) (f : SClo) : TS := fun D σ H => ∃ R F η, G.Ok R F H σ η [] ∧ EvS G W R F D (f η)
section
variable {X : Cx} {G : Par} {W : WX} {C : Ctx} {R F H : Hp} {σ : St} {η : Env} {D : Ends}
theorem EvS.shift {F' : Hp} {r : Out} (h : EvS G W R F D r) (s : Same F F') : EvS G W R F' D r := by
  cases r with
  | nx η' => exact fun F2 H2 σ2 s2 o => h F2 H2 σ2 (s.trans s2) o
  | bk η' => exact fun F2 H2 σ2 s2 o => h F2 H2 σ2 (s.trans s2) o
  | ct η' => exact fun F2 H2 σ2 s2 o => h F2 H2 σ2 (s.trans s2) o
  | rt t η' => exact fun F2 H2 σ2 v s2 o => h F2 H2 σ2 v (s.trans s2) o
  | ex c p η' => exact fun F2 H2 σ2 d s2 o e => h F2 H2 σ2 d (s.trans s2) o e
  | er => exact h
theorem is_mono {f : SClo} {D' : Ends} (h : IS G W f D σ H) (n : ∀ σ' H', D.nx σ' H' → D'.nx σ' H') (b : ∀ σ' H', D.bk σ' H' → D'.bk σ' H') (c : ∀ σ' H', D.ct σ' H' → D'.ct σ' H') (r : ∀ v H', D.rt v H' → D'.rt v H') : IS G W f D' σ H := by
  obtain ⟨R, F, η, o, h⟩ := h
  refine ⟨R, F, η, o, ?_⟩
  cases e : f η with
  | nx η' => rw [e] at h; exact fun F2 H2 σ2 s2 o => n _ _ (h F2 H2 σ2 s2 o)
  | bk η' => rw [e] at h; exact fun F2 H2 σ2 s2 o => b _ _ (h F2 H2 σ2 s2 o)
  | ct η' => rw [e] at h; exact fun F2 H2 σ2 s2 o => c _ _ (h F2 H2 σ2 s2 o)
  | rt t η' => rw [e] at h; exact fun F2 H2 σ2 v s2 o => r _ _ (h F2 H2 σ2 v s2 o)
  | ex c p η' => rw [e] at h; exact h
  | er => rw [e] at h; exact h
theorem is_eq {f f' : SClo} (e : ∀ η, f η = f' η) (h : IS G W f D σ H) : IS G W f' D σ H := by
  have : f = f' := funext e
  rw [← this]; exact h
/-- a statement that begins with an expression -/
theorem is_out {g : Clo} {b : Bool} {k : Opd × Env → Out} (h : IS G W (fun η => (g η).out k) D σ H) :
    IE G W b g σ H fun v H' => ∃ R F η x, G.Ok R F H' σ η (tms [x] [v] ++ []) ∧ (∀ i p, x = .pl i p → PlO G.ca H' σ η i p v) ∧ EvS G W R F D (k (x, η)) := by
  obtain ⟨R, F, η, o, h⟩ := h
  refine ⟨R, F, η, [], o, ?_⟩
  dsimp only at h
  cases e : g η with
  | err => rw [e] at h; exact h
  | exc c p η' => rw [e] at h; exact fun F' H' d s1 o' ex => h F' H' σ d s1 o' ex
  | ok r =>
    obtain ⟨x, η1⟩ := r
    rw [e] at h
    cases x with
    | v t => exact fun F' H' v s1 _ o' => ⟨R, F', η1, .v t, by simpa [tms] using o', (fun _ _ e => by cases e), EvS.shift h s1⟩
    | pl i p => exact fun F' H' v s1 _ o' hp => ⟨R, F', η1, .pl i p, by simpa [tms] using o', (fun _ _ e => by cases e; exact hp), EvS.shift h s1⟩
/-! ### small statements -/
theorem pss_nilI : PSs X [] (IS G W (evB C [])) := pss_by pss_nil fun D σ H ⟨R, F, η, o, h⟩ => by
  simp only [evB] at h
  exact h F H σ (Same.refl F) o
def seqF (f g : SClo) : SClo := fun η => match f η with
  | .nx η' => g η'
  | .rt t η' => .rt t η'
  | .bk η' => .bk η'
  | .ct η' => .ct η'
  | .ex c p η' => .ex c p η'
  | .er => .er
theorem is_seq {f g : SClo} (h : IS G W (seqF f g) D σ H) : tSeq (IS G W f) (IS G W g) D σ H := by
  obtain ⟨R, F, η, o, h⟩ := h
  refine ⟨R, F, η, o, ?_⟩
  simp only [seqF] at h
  cases e : f η with
  | nx η' => rw [e] at h; exact fun F' H' σ' s1 o' => ⟨R, F', η', o', EvS.shift h s1⟩
  | bk η' => rw [e] at h; exact h
  | ct η' => rw [e] at h; exact h
  | rt t η' => rw [e] at h; exact h
  | ex c p η' => rw [e] at h; exact h
  | er => rw [e] at h; exact h
theorem pss_consI {st : Stmt} {rest : List Stmt} {c : CS} {cs : List CS} (h1 : PS X st (IS G W (evS C c))) (h2 : PSs X rest (IS G W (evB C cs))) : PSs X (st :: rest) (IS G W (evB C (c :: cs))) :=
  pss_by (pss_cons h1 h2) fun D σ H h => is_seq (is_eq (fun η => by simp only [evB, seqF] <;> rfl) h)
/-- a statement that leaves no trace in the core -/
theorem pss_skipI {st : Stmt} {rest : List Stmt} {cs : List CS} (h1 : PS X st tNext) (h2 : PSs X rest (IS G W (evB C cs))) : PSs X (st :: rest) (IS G W (evB C cs)) :=
  pss_by (pss_cons h1 h2) fun D σ H h => h
theorem ps_passI {pos} : PS X (.Pass pos) (IS G W (evS C .pass)) := ps_by ps_pass fun D σ H ⟨R, F, η, o, h⟩ => by
  simp only [evS] at h
  exact h F H σ (Same.refl F) o
theorem ps_breakI {pos} : PS X (.Break pos) (IS G W (evS C .brk)) := ps_by ps_break fun D σ H ⟨R, F, η, o, h⟩ => by
  simp only [evS] at h
  exact h F H σ (Same.refl F) o
theorem ps_continueI {pos} : PS X (.Continue pos) (IS G W (evS C .cnt)) := ps_by ps_continue fun D σ H ⟨R, F, η, o, h⟩ => by
  simp only [evS] at h
  exact h F H σ (Same.refl F) o
theorem ps_retNI {pos} : PS X (.Return none pos) (IS G W (evS C .ret0)) := ps_by ps_retN fun D σ H ⟨R, F, η, o, h⟩ => by
  simp only [evS] at h
  exact h F H σ .non (Same.refl F) (Ok.push o (by simp [View]) rfl)
theorem ps_exprI {e : Expr} {ce : CE} {pos} (he : PE X e (IE G W (pu ce) (evE C ce))) (hs : swapsWith e none pos.line X.env = pure false) : PS X (.Expr e pos) (IS G W (evS C (.expr ce))) :=
  ps_by (ps_expr he hs) fun D σ H h => ie_mono (is_out (b := pu ce) (k := fun x => .nx x.2) (is_eq (fun η => by simp only [evS]) h)) fun v H1 ⟨R, F, η, x, o, _, k⟩ => k F H1 σ (Same.refl F) (Ok.drop o)
theorem ps_retI {e : Expr} {ce : CE} {pos} (he : PE X e (IE G W (pu ce) (evE C ce))) : PS X (.Return (some e) pos) (IS G W (evS C (.ret ce))) :=
  ps_by (ps_ret he) fun D σ H h => ie_mono (is_out (b := pu ce) (k := fun x => match keepO x.2 x.1 with | some (t, η') => .rt t η' | none => .er) (is_eq (fun η => by simp only [evS] <;> rfl) h)) fun v H1 ⟨R, F, η, x, o, hp, k⟩ => by
    dsimp only at k
    split at k
    · rename_i t η1 hk
      obtain ⟨F', s1, o', _⟩ := keep_ok o rfl (fun i p e _ => hp i p e) hk
      exact k F' H1 σ v s1 o'
    · exact False.elim k
/-! ### names -/
theorem set_ie {i : Nat} {ce : CE} {fr b : Bool} (hpn : ∀ j ∈ G.pn.map (·.1), C.pin.contains j = true) (h : IS G W (evS C (.asg fr (.s i) ce)) D σ H) : IE G W b (evE C ce) σ H fun v H1 => D.nx (σ.set i (some v)) H1 :=
  ie_mono (is_out (b := b) (k := fun x => if C.pin.contains i then .er else (match (if fr then fre x.2 x.1 else keepO x.2 x.1) with
      | some (t, η') => if i < η'.length then .nx (η'.set i (some t)) else .er
      | none => .er)) (is_eq (fun η => by simp only [evS] <;> rfl) h)) fun v H1 ⟨R, F, η, x, o, hp, k⟩ => by
    dsimp only at k
    split at k
    · exact False.elim k
    · rename_i hpi
      have hni : i ∉ G.pn.map (·.1) := fun m => hpi (hpn i m)
      have fin : ∀ {t : T} {η1 : Env} {F' : Hp}, Same F F' → G.Ok R F' H1 σ η1 [(v, t)] → EvS G W R F D (if i < η1.length then .nx (η1.set i (some t)) else .er) → D.nx (σ.set i (some v)) H1 := fun {t η1 F'} s1 o1 k => by
        split at k
        · rename_i hl
          exact k F' H1 _ s1 (Ok.setSlot o1 hl hni)
        · exact False.elim k
      cases fr with
      | true =>
        simp only [if_true] at k
        split at k
        · rename_i t η1 hk
          obtain ⟨F', s1, o', hv, hf, _⟩ := fre_ok o rfl (fun i p e _ => hp i p e) hk
          exact fin s1 (Ok.push o' hv hf) k
        · exact False.elim k
      | false =>
        simp only [Bool.false_eq_true, if_false] at k
        split at k
        · rename_i t η1 hk
          obtain ⟨F', s1, o', _⟩ := keep_ok o rfl (fun i p e _ => hp i p e) hk
          exact fin s1 o' k
        · exact False.elim k
theorem ps_setI {i : Nat} {x : Str} {e : Expr} {ce : CE} {fr : Bool} {pos pos' : Pos} (hN : X.N.Nodup) (hi : X.N[i]? = some x) (hx : Loc X.env.scope x) (he : PE X e (IE G W (pu ce) (evE C ce))) (hs : swapsWith e (some (.Name x pos')) pos.line X.env = pure false)
    (hf : X.fn x = true ∨ X.env.scope.names.lookup x = some .local) (hpn : ∀ j ∈ G.pn.map (·.1), C.pin.contains j = true) : PS X (.Assign [.Name x pos'] e pos) (IS G W (evS C (.asg fr (.s i) ce))) :=
  ps_by (ps_set hN hi hx he hs hf) fun D σ H h => set_ie hpn h
/-- σ and σ' differ at these slots alone -/
def Only (l : List Nat) (σ σ' : St) : Prop := ∀ vs, (∀ i ∈ l, i ∈ vs) → wipe σ' vs = wipe σ vs
theorem wipe_set {σ : St} {i : Nat} {x : Option V} : ∀ {vs : List Nat}, i ∈ vs → wipe (σ.set i x) vs = wipe σ vs
  | v :: vs, h => by
    have comm : ∀ ws : List Nat, i ∉ ws → wipe (σ.set i x) ws = (wipe σ ws).set i x := by
      intro ws
      induction ws with
      | nil => intro _; rfl
      | cons w ws ih =>
        intro hw
        simp only [List.mem_cons, not_or] at hw
        show (wipe (σ.set i x) ws).set w none = ((wipe σ ws).set w none).set i x
        rw [ih hw.2, List.set_comm _ _ hw.1]
    show (wipe (σ.set i x) vs).set v none = (wipe σ vs).set v none
    by_cases hi : i ∈ vs
    · rw [wipe_set hi]
    · rcases List.mem_cons.mp h with rfl | h
      · rw [comm vs hi, List.set_set]
      · exact absurd h hi
theorem Only.refl {l : List Nat} {σ : St} : Only l σ σ := fun _ _ => rfl
theorem Only.set {i : Nat} {σ : St} {x : Option V} : Only [i] σ (σ.set i x) := fun vs h => wipe_set (h i (by simp))
theorem Only.app {l m : List Nat} {σ σ1 σ2 : St} (h : Only l σ σ1) (k : Only m σ1 σ2) : Only (l ++ m) σ σ2 := fun vs hh => (k vs fun i hi => hh i (by simp [hi])).trans (h vs fun i hi => hh i (by simp [hi]))
/-- targets that a frozen value goes to -/
def IG (G : Par) (C : Ctx) (ft : FT) : TG := fun v σ H Q => ∃ R F η t tmp, G.Ok R F H σ η tmp ∧ G.View F t v ∧ t.fz = true ∧ ft.slots.any C.pin.contains = false ∧ ∃ η', bindF ft t η = some η' ∧ ∀ σ', Only ft.slots σ σ' → G.Ok R F H σ' η' tmp → Q σ' H
def IGs (G : Par) (C : Ctx) (fts : List FT) : TGs := fun vs σ H Q => ∃ R F η ts tmp, G.Ok R F H σ η tmp ∧ G.Views F ts vs ∧ fzs ts = true ∧ (slotsF fts).any C.pin.contains = false ∧ ∃ η', bindFs fts ts η = some η' ∧ ∀ σ', Only (slotsF fts) σ σ' → G.Ok R F H σ' η' tmp → Q σ' H
theorem pg_by {e : Expr} {te te' : TG} (h : PG X e te) (k : ∀ v σ H Q, te' v σ H Q → te v σ H Q) : PG X e te' :=
  ⟨fun pins s σ H v u Q I r q => h.run pins s σ H v u Q I r (k v σ H Q q)⟩
theorem pgs_by {es : List Expr} {te te' : TGs} (h : PGs X es te) (k : ∀ v σ H Q, te' v σ H Q → te v σ H Q) : PGs X es te' :=
  ⟨fun pins s σ H v u Q I r q => h.run pins s σ H v u Q I r (k v σ H Q q)⟩
theorem pg_nameI {i : Nat} {x : Str} {pos} (hN : X.N.Nodup) (hi : X.N[i]? = some x) (hx : Loc X.env.scope x) (hf : X.fn x = true ∨ X.env.scope.names.lookup x = some .local) (hpn : ∀ j ∈ G.pn.map (·.1), C.pin.contains j = true) : PG X (.Name x pos) (IG G C (.s i)) :=
  pg_by (pg_name hN hi hx hf) fun v σ H Q ⟨R, F, η, t, tmp, o, hv, hf, hp, η', hb, k⟩ => by
    simp only [bindF] at hb
    split at hb
    · rename_i hl
      cases hb
      refine k _ Only.set (Ok.setSlot (Ok.push o hv hf) hl fun m => ?_)
      simp only [FT.slots, List.any_cons, List.any_nil, Bool.or_false] at hp
      rw [hpn i m] at hp
      cases hp
    · cases hb
theorem pgs_nilI : PGs X [] (IGs G C []) := pgs_by pgs_nil fun vs σ H Q ⟨R, F, η, ts, tmp, o, hv, hf, hp, η', hb, k⟩ => by
  cases ts with
  | nil =>
    simp only [bindFs] at hb
    cases hb
    simp only [Views] at hv
    exact ⟨hv, k σ Only.refl o⟩
  | cons t ts => simp [bindFs] at hb
theorem pgs_consI {e : Expr} {es : List Expr} {f : FT} {fs : List FT} (h1 : PG X e (IG G C f)) (h2 : PGs X es (IGs G C fs)) (hs : (assignEach (e :: es) X.env).map (·.2) = assign e X.env :: (assignEach es X.env).map (·.2)) : PGs X (e :: es) (IGs G C (f :: fs)) :=
  pgs_by (pgs_cons h1 h2 hs) fun vs σ H Q ⟨R, F, η, ts, tmp, o, hv, hf, hp, η', hb, k⟩ => by
    cases ts with
    | nil => simp [bindFs] at hb
    | cons t ts =>
      simp only [bindFs] at hb
      split at hb
      · rename_i η1 h1
        simp only [Views] at hv
        obtain ⟨v, r, rfl, hv1, hv2⟩ := hv
        simp only [fzs, Bool.and_eq_true] at hf
        simp only [slotsF, List.any_append, Bool.or_eq_false_iff] at hp
        exact ⟨v, r, rfl, R, F, η, t, tmp, o, hv1, hf.1, hp.1, η1, h1, fun σ1 on1 o' => ⟨R, F, η1, ts, tmp, o', hv2, hf.2, hp.2, η', hb, fun σ2 on2 o2 => k σ2 (by simp only [slotsF]; exact on1.app on2) o2⟩⟩
      · cases hb
theorem bindFs_len : ∀ {fs : List FT} {ts : List T} {η η' : Env}, bindFs fs ts η = some η' → fs.length = ts.length
  | [], [], _, _, _ => rfl
  | [], _ :: _, _, _, h => by simp [bindFs] at h
  | _ :: _, [], _, _, h => by simp [bindFs] at h
  | f :: fs, t :: ts, η, η', h => by
    simp only [bindFs] at h
    split at h
    · rw [List.length_cons, List.length_cons, bindFs_len h]
    · cases h
theorem pg_tupI {es : List Expr} {k : Nat} {fs : List FT} {pos} (hc : X.calm = true) (h : PGs X es (IGs G C fs)) (hn : (assignEach es X.env).length = fs.length) (hst : (assignEach es X.env).findIdx? (·.1) = none) : PG X (.Tuple es k pos) (IG G C (.t fs)) :=
  pg_by (pg_tup hc h hn hst) fun v σ H Q ⟨R, F, η, t, tmp, o, hv, hf, hp, η', hb, k⟩ => by
    simp only [bindF] at hb
    split at hb
    · rename_i ts
      simp only [View] at hv
      obtain ⟨a, vs, rfl, ha, hv⟩ := hv
      refine ⟨a, vs, rfl, .inl (.inl (o.same _ _ ha)), ?_, R, F, η, ts, tmp, o, hv, hf, hp, η', hb, k⟩
      rw [← hv.length, bindFs_len hb]
    · cases hb
/-- targets = value -/
theorem ps_asgI {tg e : Expr} {ce : CE} {fr : Bool} {fts : List FT} {pos} (he : PE X e (IE G W (pu ce) (evE C ce))) (hg : PG X tg (IG G C (.t fts))) (hs : swapsWithSole [tg] e pos.line X.env = pure false) (hw : swappedStores [tg] e X.env = pure none)
    (h1 : (assignEach [tg] X.env).map (·.2) = [assign tg X.env]) : PS X (.Assign [tg] e pos) (IS G W (evS C (.asg fr (.t fts) ce))) :=
  ps_by (ps_asg he hg hs hw h1) fun D σ H h => ie_mono (is_out (b := pu ce) (k := fun x => if (slotsF fts).any C.pin.contains then .er else (match fre x.2 x.1 with
      | some (t, η') => (match bindF (.t fts) t η' with
        | some η₂ => .nx η₂
        | none => .er)
      | none => .er)) (is_eq (fun η => by simp only [evS] <;> rfl) h)) fun v H1 ⟨R, F, η, x, o, hp, k⟩ => by
    dsimp only at k
    split at k
    · exact False.elim k
    · rename_i hpi
      split at k
      · rename_i t η1 hk
        split at k
        · rename_i η2 hb
          obtain ⟨F', s1, o', hv, hf, _⟩ := fre_ok o rfl (fun i p e _ => hp i p e) hk
          exact ⟨R, F', η1, t, [], o', hv, hf, by simpa [FT.slots] using hpi, η2, hb, fun σ' _ o2 => k F' H1 σ' s1 o2⟩
        · exact False.elim k
      · exact False.elim k
/-! ### if, while -/
theorem is_tst {g : Clo} {k : Env → Bool → Out} (h : IS G W (fun η => (g η).out fun x => match truO x.2 x.1 with | some b => k x.2 b | none => .er) D σ H) :
    IB G W g σ H fun b H' => ∃ R F η, G.Ok R F H' σ η [] ∧ EvS G W R F D (k η b) := by
  obtain ⟨R, F, η, o, h⟩ := h
  refine ⟨R, F, η, [], o, ?_⟩
  dsimp only at h
  cases e : g η with
  | err => rw [e] at h; exact h
  | exc c p η' => rw [e] at h; exact fun F' H' d s1 o' ex => h F' H' σ d s1 o' ex
  | ok r =>
    obtain ⟨x, η1⟩ := r
    rw [e] at h
    simp only [TV.R.out] at h
    simp only [EvT]
    cases ht : truO η1 x with
    | none => rw [ht] at h; exact False.elim h
    | some b => rw [ht] at h; exact fun F' H' s1 o' => ⟨R, F', η1, o', EvS.shift h s1⟩
theorem ps_ifI {t : Expr} {a b : List Stmt} {ct : CE} {ca cb : List CS} {pos} (ht : PT X t (IB G W (evE C ct))) (ha : PSs X a (IS G W (evB C ca))) (hb : PSs X b (IS G W (evB C cb))) : PS X (.If t a b pos) (IS G W (evS C (.ife ct ca cb))) :=
  ps_by (ps_if ht ha hb) fun D σ H h => it_mono (is_tst (k := fun η b => if b = true then evB C ca η else evB C cb η) (is_eq (fun η => by
    simp only [evS]
    congr 1
    funext x
    cases truO x.2 x.1 with
    | none => rfl
    | some b => cases b <;> rfl) h)) fun b H1 ⟨R, F, η, o, k⟩ => by
    cases b with
    | true => rw [if_pos rfl] at k ⊢; exact ⟨R, F, η, o, k⟩
    | false => rw [if_neg Bool.false_ne_true] at k ⊢; exact ⟨R, F, η, o, k⟩
theorem ps_whileI {t : Expr} {body : List Stmt} {ct : CE} {cb : List CS} {pos} (hp : PassesOwn (model X.prog X.w) X.A X.env X.xe) (ht : PT X t (IB G W (evE C ct))) (hb : PSs X body (IS G W (evB C cb))) : PS X (.While t body [] pos) (IS G W (evS C (.whl ct cb))) :=
  ps_by (ps_while hp ht hb) fun D σ H h => by
    obtain ⟨R, F, η, o, h⟩ := h
    simp only [evS] at h
    refine ⟨fun m σ H => IS G W (whL (fun η => (evE C ct η).bind fun x => match truO x.2 x.1 with
      | some k => .ok (k, x.2)
      | none => .err) (fun η => evB C cb η) m) D σ H, ⟨fuelW, R, F, η, o, h⟩, fun m σ H h => ?_⟩
    cases m with
    | zero =>
      obtain ⟨R, F, η, o, h⟩ := h
      exact False.elim h
    | succ m =>
      refine it_mono (is_tst (k := fun η b => if b = true then (match evB C cb η with
          | .nx η' => whL (fun η => (evE C ct η).bind fun x => match truO x.2 x.1 with
            | some k => .ok (k, x.2)
            | none => .err) (fun η => evB C cb η) m η'
          | .ct η' => whL (fun η => (evE C ct η).bind fun x => match truO x.2 x.1 with
            | some k => .ok (k, x.2)
            | none => .err) (fun η => evB C cb η) m η'
          | .bk η' => .nx η'
          | .rt t η => .rt t η
          | .ex c p η => .ex c p η
          | .er => .er) else .nx η) (is_eq (fun η => ?_) h)) fun b H1 ⟨R, F, η, o, k⟩ => ?_
      · simp only [whL]
        cases evE C ct η with
        | err => rfl
        | exc c p η' => rfl
        | ok r =>
          simp only [TV.R.bind, TV.R.out]
          cases truO r.2 r.1 with
          | none => rfl
          | some b => rfl
      · cases b with
        | false =>
          rw [if_neg Bool.false_ne_true] at k ⊢
          exact k F H1 σ (Same.refl F) o
        | true =>
          rw [if_pos rfl] at k ⊢
          refine ⟨IS G W (whL (fun η => (evE C ct η).bind fun x => match truO x.2 x.1 with
            | some k => .ok (k, x.2)
            | none => .err) (fun η => evB C cb η) m) D, fun σ' H' q => ⟨m, Nat.lt_succ_self m, q⟩, R, F, η, o, ?_⟩
          cases e : evB C cb η with
          | nx η' => rw [e] at k; exact fun F' H' σ' s1 o' => ⟨R, F', η', o', EvS.shift k s1⟩
          | ct η' => rw [e] at k; exact fun F' H' σ' s1 o' => ⟨R, F', η', o', EvS.shift k s1⟩
          | bk η' => rw [e] at k; exact k
          | rt t η' => rw [e] at k; exact k
          | ex c p η' => rw [e] at k; exact k
          | er => rw [e] at k; exact k
end
end TV
/-! statements: stores into lists, dicts, objects; augmented ones -/
namespace TV
open PySem L2 PySem.Spec
section
variable {X : Cx} {G : Par} {W : WX} {C : Ctx} {R F H : Hp} {σ : St} {η : Env} {D : Ends} {tmp : List (V × T)} {ca : Nat → Addr}
theorem ie_outS {g : Clo} {b : Bool} {k : Opd × Env → Out} (o : G.Ok R F H σ η tmp) (h : EvS G W R F D ((g η).out k)) :
    IE G W b g σ H fun v H' => ∃ F' η' x, Same F F' ∧ G.Ok R F' H' σ η' (tms [x] [v] ++ tmp) ∧ (∀ i p, x = .pl i p → PlO G.ca H' σ η' i p v) ∧ (b = true → Same H H') ∧ g η = .ok (x, η') ∧ EvS G W R F' D (k (x, η')) := by
  refine ⟨R, F, η, tmp, o, ?_⟩
  cases e : g η with
  | err => rw [e] at h; exact h
  | exc c p η' => rw [e] at h; exact fun F' H' d s1 o' ex => h F' H' σ d s1 (Ok.drop (l := tmp) (tmp := []) (by rw [List.append_nil]; exact o')) ex
  | ok r =>
    obtain ⟨x, η1⟩ := r
    rw [e] at h
    cases x with
    | v t => exact fun F' H' v s1 sH o' => ⟨F', η1, .v t, s1, by simpa [tms] using o', (fun _ _ e => by cases e), sH, rfl, EvS.shift h s1⟩
    | pl i p => exact fun F' H' v s1 sH o' hp => ⟨F', η1, .pl i p, s1, by simpa [tms] using o', (fun _ _ e => by cases e; exact hp), sH, rfl, EvS.shift h s1⟩
theorem ia_outS {fs : List BClo} {k : List Opd × Env → Out} (o : G.Ok R F H σ η tmp) (h : EvS G W R F D ((evL fs η).out k)) :
    IA G W fs σ H fun us H' => ∃ F' η' os, Same F F' ∧ G.Ok R F' H' σ η' (tms os us ++ tmp) ∧ Pls G H' σ η' os us ∧ EvS G W R F' D (k (os, η')) := by
  refine ⟨R, F, η, tmp, o, ?_⟩
  cases e : evL fs η with
  | err => rw [e] at h; exact h
  | exc c p η' => rw [e] at h; exact fun F' H' d s1 o' ex => h F' H' σ d s1 (Ok.drop (l := tmp) (tmp := []) (by rw [List.append_nil]; exact o')) ex
  | ok r =>
    obtain ⟨os, η1⟩ := r
    rw [e] at h
    exact fun F' H' us s1 sH o' pl => ⟨F', η1, os, s1, o', pl, EvS.shift h s1⟩
/-! ### o[k] = x -/
def rSt (ca : Nat → Addr) : TSet := fun o i v H Q => ∃ F n k t an al n', Same F H ∧ Own ca F H n o an ∧ CV ca F H k i ∧ Own ca F H t v al ∧ (∀ a, (an ++ al).count a ≤ 1) ∧ setT n k t = some n' ∧
  ∀ H' an', (∀ a, a ∉ an → ∀ o, H a = some o → H' a = some o) → Own ca F H' n' o an' → (∀ a, an'.count a ≤ (an ++ al).count a) → Q H'
theorem kpos_none : ∀ {ks : List T} {k : T}, kpos ks k = none → ∀ x ∈ ks, x.beq k = false
  | [], _, _, x, hx => by cases hx
  | y :: ks, k, h, x, hx => by
    simp only [kpos] at h
    split at h
    · cases h
    · rename_i hn
      rcases List.mem_cons.mp hx with rfl | hx
      · simpa using hn
      · exact kpos_none (by simpa using h) x hx
theorem put_zip {κ : Type} [DecidableEq κ] {f : κ → T} (hf : ∀ a b, f a = f b → a = b) (k : κ) (v : V) : ∀ (kk : List κ) (vs : List V), kk.length = vs.length → kk.Nodup →
    putK (kk.zip vs) k v = match kpos (kk.map f) (f k) with | some j => kk.zip (vs.set j v) | none => (kk ++ [k]).zip (vs ++ [v]) := by
  intro kk vs hl hn
  have beq_iff : ∀ x : κ, (f x).beq (f k) = true ↔ x = k := fun x => ⟨fun h => hf _ _ (T.beq_eq _ _ h), fun h => by rw [h]; exact T.beq_refl _⟩
  unfold putK
  cases e : kpos (kk.map f) (f k) with
  | none =>
    have hno : ∀ x ∈ kk, x ≠ k := fun x hx z => by
      have := kpos_none e (f x) (List.mem_map_of_mem hx)
      rw [(beq_iff x).mpr z] at this
      cases this
    have : ¬ ((kk.zip vs).any fun kv => decide (kv.1 = k)) = true := by
      rw [List.any_eq_true]
      rintro ⟨⟨x, y⟩, hm, hd⟩
      exact hno x (List.of_mem_zip hm).1 (by simpa using hd)
    rw [if_neg this]
    dsimp only
    rw [List.zip_append hl]
    rfl
  | some j =>
    have hj : j < kk.length := by have := kpos_lt e; simpa using this
    have at_ : ∀ {l : List κ} {j : Nat}, kpos (l.map f) (f k) = some j → l[j]? = some k := by
      intro l
      induction l with
      | nil => intro j h; simp [kpos] at h
      | cons x l ih =>
        intro j h
        simp only [List.map_cons, kpos] at h
        split at h
        · rename_i hb
          cases h
          simp [(beq_iff x).mp hb]
        · obtain ⟨i, hi, rfl⟩ := Option.map_eq_some_iff.mp h
          simpa using ih hi
    have hk := at_ e
    have hany : ((kk.zip vs).any fun kv => decide (kv.1 = k)) = true := by
      rw [List.any_eq_true]
      obtain ⟨hj2, ek⟩ := List.getElem?_eq_some_iff.mp hk
      refine ⟨(kk[j], vs[j]'(by omega)), List.mem_iff_getElem.mpr ⟨j, by simp; omega, by simp⟩, by simp [ek]⟩
    rw [if_pos hany]
    dsimp only
    apply List.ext_getElem?
    intro i
    rw [List.getElem?_map]
    by_cases hi : i < kk.length
    · have hiv : i < vs.length := by omega
      have e1 : (kk.zip vs)[i]? = some (kk[i], vs[i]) := by
        rw [List.getElem?_eq_getElem (by simp; omega)]; simp
      rw [e1]
      simp only [Option.map_some]
      have e2 : (kk.zip (vs.set j v))[i]? = some (kk[i], (vs.set j v)[i]'(by simpa using hiv)) := by
        rw [List.getElem?_eq_getElem (by simp; omega)]; simp
      rw [e2]
      congr 1
      by_cases ij : i = j
      · subst ij
        have : kk[i] = k := by
          have := List.getElem?_eq_getElem hi
          rw [hk] at this
          exact (Option.some.inj this).symm
        rw [if_pos this]
        simp [this]
      · have : kk[i] ≠ k := fun z => by
          obtain ⟨hj2, ek⟩ := List.getElem?_eq_some_iff.mp hk
          rcases Nat.lt_or_gt_of_ne ij with l | l
          · exact (List.pairwise_iff_getElem.mp hn) i j hi hj2 l (z.trans ek.symm)
          · exact (List.pairwise_iff_getElem.mp hn) j i hj2 hi l (ek.trans z.symm)
        rw [if_neg this]
        simp [List.getElem_set_ne (Ne.symm ij)]
    · have e1 : (kk.zip vs)[i]? = none := by rw [List.getElem?_eq_none_iff]; simp; omega
      have e2 : (kk.zip (vs.set j v))[i]? = none := by rw [List.getElem?_eq_none_iff]; simp; omega
      rw [e1, e2]; rfl
theorem paired_fst {κ β γ : Type} {P : κ × β → κ × γ → Prop} (hP : ∀ p q, P p q → p.1 = q.1) : ∀ {l : List (κ × β)} {m : List (κ × γ)}, Paired P l m → l.map (·.1) = m.map (·.1)
  | _, _, .nil => rfl
  | _, _, .cons h t => by rw [List.map_cons, List.map_cons, hP _ _ h, paired_fst hP t]
theorem zip_fst0 {κ β : Type} : ∀ {l : List κ} {m : List β}, l.length = m.length → (l.zip m).map (·.1) = l
  | [], [], _ => rfl
  | a :: l, b :: m, h => by rw [List.zip_cons_cons, List.map_cons, zip_fst0 (by simpa using h)]
  | [], _ :: _, h => by simp at h
  | _ :: _, [], h => by simp at h
theorem dK_nodup {pins : List (Addr × Obj)} {s : Shared} {a : Addr} {kvs : List (Key × V)} (I : L2.Inv X pins σ H s) (h : H a = some (.dK kvs)) : (kvs.map (·.1)).Nodup := by
  obtain ⟨_, _, vs, kv, o, es, ep, _, _, _, _, _, nd⟩ := I.hok a _ h
  rw [paired_fst (fun _ _ h => h.1) kv]
  exact nd
theorem dT_nodup {pins : List (Addr × Obj)} {s : Shared} {a : Addr} {kvs : List (List Key × V)} (I : L2.Inv X pins σ H s) (h : H a = some (.dT kvs)) : (kvs.map (·.1)).Nodup := by
  obtain ⟨_, _, vs, kv, o, es, ep, _, _, _, _, nd⟩ := I.hok a _ h
  rw [paired_fst (fun _ _ h => h.1) kv]
  exact nd
theorem setT_lst {ts : List T} {k t n' : T} (h : setT (.lst true ts) k t = some n') : ∃ i j, k = .int i ∧ idxOf ts.length i = some j ∧ n' = .lst true (ts.set j t) := by
  unfold setT at h
  split at h <;> try contradiction
  · rename_i e
    cases e
    obtain ⟨j, hj, e⟩ := Option.map_eq_some_iff.mp h
    exact ⟨_, j, rfl, hj, e.symm⟩
theorem setT_dic {ks ts : List T} {k t n' : T} (h : setT (.dic true ks ts) k t = some n') : keyFit ks k = true ∧ ks.length < sizeL ∧ ((∃ j, kpos ks k = some j ∧ n' = .dic true ks (ts.set j t)) ∨ (kpos ks k = none ∧ n' = .dic true (ks ++ [k]) (ts ++ [t]))) := by
  simp only [setT] at h
  split at h
  · rename_i hh
    simp only [Bool.and_eq_true, decide_eq_true_eq] at hh
    split at h
    · rename_i j hj
      exact ⟨hh.1, hh.2, .inl ⟨j, hj, (Option.some.inj h).symm⟩⟩
    · rename_i hj
      exact ⟨hh.1, hh.2, .inr ⟨hj, (Option.some.inj h).symm⟩⟩
  · cases h
/-- the dict behind a store -/
theorem dic_put {κ : Type} [DecidableEq κ] {f : κ → T} (hf : ∀ a b, f a = f b → a = b) {kk : List κ} {vs : List V} {k : κ} {v : V} {t : T} {ts : List T} {n' : T} {r al : List Addr} {H' : Hp} (hl : kk.length = vs.length) (hn : kk.Nodup)
    (hts : ts.length = vs.length)
    (w : Owns ca F H' ts vs r) (wt : Own ca F H' t v al) (hc : (∃ j, kpos (kk.map f) (f k) = some j ∧ n' = .dic true (kk.map f) (ts.set j t)) ∨ (kpos (kk.map f) (f k) = none ∧ n' = .dic true (kk.map f ++ [f k]) (ts ++ [t]))) :
    ∃ (kk' : List κ) (vs' : List V) (ts' : List T) (r' : List Addr), putK (kk.zip vs) k v = kk'.zip vs' ∧ kk'.length = vs'.length ∧ n' = .dic true (kk'.map f) ts' ∧ Owns ca F H' ts' vs' r' ∧ ∀ a, r'.count a ≤ (r ++ al).count a := by
  rw [put_zip hf k v kk vs hl hn]
  rcases hc with ⟨j, hj, rfl⟩ | ⟨hj, rfl⟩
  · rw [hj]
    have hlt : j < ts.length := by have := kpos_lt hj; rw [hts, ← hl]; simpa using this
    obtain ⟨u, pre, an, post, e1, rfl, _, back⟩ := w.focus (List.getElem?_eq_getElem hlt)
    refine ⟨kk, vs.set j v, ts.set j t, pre ++ al ++ post, rfl, by simpa using hl, rfl, back F H' t v al (Same.refl F) (fun _ _ _ e => e) wt, fun a => ?_⟩
    simp only [List.count_append]; omega
  · rw [hj]
    exact ⟨kk ++ [k], vs ++ [v], ts ++ [t], r ++ al, rfl, by simp [hl], by simp, Owns.append w (Owns.one wt), fun a => Nat.le_refl _⟩
theorem set_T {k : Nat} (hr : Room k X.A) : PSet X (rSt ca) := by
  intro pins s σ H o i v ov iv u Q I ro ri rv ⟨F, n, key, t, an, al, n', e, w, ck, wt, hc, hs, q⟩
  have hun := hr.un
  cases n with
  | lst b ts =>
    cases b with
    | false => simp [setT] at hs
    | true =>
      obtain ⟨i', j, rfl, hj, rfl⟩ := setT_lst hs
      obtain ⟨a, vs, rr, rfl, rfl, ha, wv⟩ := own_olist w
      obtain rfl := ck
      have ne := ne_of_count hc
      have hlt : j < ts.length := (ixN_seq hj).2.1
      obtain ⟨y, pre, ak, post, e1, rfl, _, back⟩ := wv.focus (List.getElem?_eq_getElem hlt)
      refine set_list pins s σ H _ _ v ov iv u Q I ro ri rv ⟨a, vs, i', j, rfl, rfl, ha, by rw [← wv.length]; exact hj, q _ (a :: (pre ++ al ++ post)) keep_upd (relay (r := pre) (al := al) ?_) fun b => ?_⟩
      · exact back F _ t v al (Same.refl F) (fr_upd fun b hb => ne b (by simp only [List.mem_append] at hb ⊢; rcases hb with z | z <;> simp [z])) (Own.frame (Same.refl F) _ _ _ (fr_upd fun b hb => ne b (by simp [hb])) wt)
      · simp only [List.cons_append, List.count_cons, List.count_append]; omega
  | dic b ks ts =>
    cases b with
    | false => simp [setT] at hs
    | true =>
      obtain ⟨hk, hz, hcase⟩ := setT_dic hs
      obtain ⟨a, vs, rr, rfl, rfl, ha, wv⟩ : ∃ a vs r, o = .ref a ∧ an = a :: r ∧ DicAt H a ks vs ∧ Owns ca F H ts vs r := by simpa only [Own] using w
      have ne := ne_of_count hc
      have fw : ∀ {u : HO}, Owns ca F (upd H a u) ts vs rr := fun {u} => Owns.frame (Same.refl F) _ _ _ (fr_upd fun b hb => ne b (by simp [hb])) wv
      have ft : ∀ {u : HO}, Own ca F (upd H a u) t v al := fun {u} => Own.frame (Same.refl F) _ _ _ (fr_upd fun b hb => ne b (by simp [hb])) wt
      simp only [keyFit, Bool.and_eq_true] at hk
      cases ro
      -- the dict as one of scalar keys, or of tuple keys
      have goK : ∀ (kk : List Key) (H2 : Hp), (∀ u, upd H2 a u = upd H a u) → ks = kk.map keyT → kk.length = vs.length → H2 a = some (.dK (kk.zip vs)) → L2.Inv X pins σ H2 s → ∀ kx : Key, key = keyT kx → i = kV kx →
          wpAny (model X.prog X.w) X.A (PySem.setItem (.ref a) iv u) (fun _ s' => ∃ H', L2.Inv X pins σ H' s' ∧ Q H') X.xe s := by
        intro kk H2 hu hks hl h2 I2 kx hkx hi
        have nd : kk.Nodup := by
          have := dK_nodup I2 h2
          rwa [zip_fst0 hl] at this
        subst hks hkx
        obtain ⟨kk', vs', ts', r', e1, e2, e3, e4, e5⟩ := dic_put (f := keyT) (fun a b h => keyT_inj (by rw [h]; exact T.beq_refl _)) (k := kx) (v := v) (n' := n') (H' := upd H a (.dK (putK (kk.zip vs) kx v))) hl nd wv.length fw ft hcase
        refine d_setItem (by omega) I2 (H' := upd H a (.dK (putK (kk.zip vs) kx v))) (by
          rw [hi, ← hu]
          exact DPut.k h2 (by rw [List.length_zip, ← hl, Nat.min_self]; exact sizeL_lt (by simpa using hz))) ri rv fun s' I' => ⟨_, I', ?_⟩
        refine q _ (a :: r') keep_upd ?_ fun b => ?_
        · rw [e3]
          simp only [Own]
          exact ⟨a, vs', r', rfl, rfl, .inl ⟨kk', rfl, e2, by rw [upd_same, e1]⟩, e4⟩
        · have := e5 b
          simp only [List.cons_append, List.count_cons, List.count_append] at *; omega
      have goT : ∀ (kk : List (List Key)) (H2 : Hp), (∀ u, upd H2 a u = upd H a u) → (∀ b, b ≠ a → H2 b = H b) → ks = kk.map (fun l => .tup (l.map keyT)) → kk.length = vs.length → H2 a = some (.dT (kk.zip vs)) → L2.Inv X pins σ H2 s → ∀ (kx : List Key) (b : Addr), key = .tup (kx.map keyT) → i = .ref b → H b = some (.tup (kx.map kV)) → H2 b = some (.tup (kx.map kV)) →
          wpAny (model X.prog X.w) X.A (PySem.setItem (.ref a) iv u) (fun _ s' => ∃ H', L2.Inv X pins σ H' s' ∧ Q H') X.xe s := by
        intro kk H2 hu _ hks hl h2 I2 kx bk hkx hi hb hb2
        have nd : kk.Nodup := by
          have := dT_nodup I2 h2
          rwa [zip_fst0 hl] at this
        subst hks hkx
        obtain ⟨kk', vs', ts', r', e1, e2, e3, e4, e5⟩ := dic_put (f := fun l => T.tup (l.map keyT)) tupkey_inj (k := kx) (v := v) (n' := n') (H' := upd H a (.dT (putK (kk.zip vs) kx v))) hl nd wv.length fw ft hcase
        refine d_setItem (by omega) I2 (H' := upd H a (.dT (putK (kk.zip vs) kx v))) (by
          rw [hi, ← hu]
          exact DPut.t h2 hb2 (by rw [List.length_zip, ← hl, Nat.min_self]; exact sizeL_lt (by simpa using hz))) ri rv fun s' I' => ⟨_, I', ?_⟩
        refine q _ (a :: r') keep_upd ?_ fun b => ?_
        · rw [e3]
          simp only [Own]
          exact ⟨a, vs', r', rfl, rfl, .inr ⟨kk', rfl, e2, by rw [upd_same, e1]⟩, e4⟩
        · have := e5 b
          simp only [List.cons_append, List.count_cons, List.count_append] at *; omega
      have upd2 : ∀ (o1 u : HO), upd (upd H a o1) a u = upd H a u := fun o1 u => by rw [upd_upd]
      rcases keyOk_of hk.1 with ⟨kx, rfl, ht⟩ | ⟨kx, rfl, ht⟩
      · have hi := cv_key ck
        rcases ha with ⟨kk, hks, hl, h2⟩ | ⟨kk, hks, hl, h2⟩
        · exact goK kk H (fun _ => rfl) hks hl h2 I kx rfl hi
        · cases kk with
          | cons z kk =>
            have := hk.2
            rw [hks, ht] at this
            simp [isTup] at this
          | nil =>
            have hv : vs = [] := List.eq_nil_of_length_eq_zero hl.symm
            subst hv
            exact goK [] (upd H a (.dK [])) (upd2 _) (by simpa using hks) rfl upd_same (conv0 I (.inr h2) (.inl rfl)) kx rfl hi
      · obtain ⟨bk, hi, hb⟩ := cv_tkey e ck
        rcases ha with ⟨kk, hks, hl, h2⟩ | ⟨kk, hks, hl, h2⟩
        · cases kk with
          | cons z kk =>
            have := hk.2
            rw [hks, ht] at this
            simp [isTup_key] at this
          | nil =>
            have hv : vs = [] := List.eq_nil_of_length_eq_zero hl.symm
            subst hv
            have nb : bk ≠ a := fun z => by rw [z, h2] at hb; cases hb
            exact goT [] (upd H a (.dT [])) (upd2 _) (fun b hb => upd_ne hb) (by simpa using hks) rfl upd_same (conv0 I (.inl h2) (.inr rfl)) kx bk rfl hi hb (by rw [upd_ne nb]; exact hb)
        · exact goT kk H (fun _ => rfl) (fun _ _ => rfl) hks hl h2 I kx bk rfl hi hb hb
  | _ => simp [setT] at hs
end
end TV
/-! statements: stores into lists, dicts, objects; augmented ones: the rules -/
namespace TV
open PySem L2 PySem.Spec
section
variable {X : Cx} {G : Par} {W : WX} {C : Ctx} {R F H : Hp} {σ : St} {η : Env} {D : Ends} {tmp : List (V × T)} {ca : Nat → Addr} {k : Nat}
theorem is_it {f : SClo} (o : G.Ok R F H σ η []) (h : EvS G W R F D (f η)) : IS G W f D σ H := ⟨R, F, η, o, h⟩
/-- a store by values, the key and the value at hand -/
theorem store_at {i : Nat} {p : List Nat} {n n' key t : T} {ov iv v : V} {oi : Opd} (o : G.Ok R F H σ η (tms [oi] [iv] ++ [(v, t)])) (hn : get η i p = some n) (hp : PlO G.ca H σ η i p ov) (hoi : ∀ j q, oi = .pl j q → PlO G.ca H σ η j q iv) (hk : dr η oi = some key)
    (hs : setT n key t = some n') (k : ∀ F' H' σ', Same F F' → G.Ok R F' H' σ' (put η i p n') [] → D.nx σ' H') : rSt G.ca ov iv v H fun H' => D.nx σ H' := by
  have ck : CV G.ca F H key iv := dr_cv o (fun t e => by subst e; simp [tms]) hoi hk
  obtain ⟨an, al, w, hl, hf, hc, hF, back⟩ := Ok.write (tmp := []) (by rw [List.append_nil]; exact o) hn hp
  obtain ⟨a1, a2, rfl, h1, h2⟩ := OkT.app.mp hl
  simp only [OkT] at h2
  obtain ⟨b1, b2, rfl, wt, rfl⟩ := h2
  rw [List.append_nil] at *
  refine ⟨F, n, key, t, an, b1, n', o.same, w, ck, wt, fun a => ?_, hs, fun H' an' kp w' hle => ?_⟩
  · have := hc a
    simp only [List.count_append] at *; omega
  · exact k F H' σ (Same.refl F) (back H' n' an' [] [] kp w' rfl fun a => by
      have := hle a
      simp only [List.append_nil, List.count_append] at *; omega)
theorem ps_asgIxI (hr : Room k X.A) {o i e : Expr} {co ci ce : CE} {pos pos' : Pos} (ho : PE X o (IE G W (pu co) (evE C co))) (hi : PE X i (IE G W (pu ci) (evE C ci))) (he : PE X e (IE G W (pu ce) (evE C ce)))
    (ha : ∀ v, assign (.Subscript o i pos') X.env v = (do
      let ov ← holding [v] (eval o X.env)
      let iv ← holding [v, ov] (eval i X.env)
      standAt pos'
      holding [v, ov, iv] (setItem ov iv v)
      release [v, ov, iv] []))
    (hs : swapsWithSole [.Subscript o i pos'] e pos.line X.env = pure false) (hw : swappedStores [.Subscript o i pos'] e X.env = pure none)
    (h1 : (assignEach [.Subscript o i pos'] X.env).map (·.2) = [assign (.Subscript o i pos') X.env]) : PS X (.Assign [.Subscript o i pos'] e pos) (IS G W (evS C (.asgIx co ci ce))) :=
  ps_by (ps_asg he (pg_sub ho hi (set_T (ca := G.ca) hr) ha) hs hw h1) fun D σ H h => by
    obtain ⟨R, F, η, ok, h⟩ := h
    simp only [evS] at h
    refine ie_mono (ie_outS (b := pu ce) ok h) fun v H1 ⟨F1, η1, x, s1, o1, hp1, _, _, h1⟩ => ?_
    dsimp only at h1
    split at h1
    · rename_i t η2 hk
      obtain ⟨F2, s2, o2, _⟩ := keep_ok o1 rfl (fun i p e _ => hp1 i p e) hk
      have h2 := EvS.shift h1 s2
      refine ie_mono (ia_cons (ia_outS o2 h2)) fun ov H2 h3 => ie_mono (ia_cons h3) fun iv H3 h4 => ?_
      obtain ⟨F3, η3, os, s3, o3, pl, h5⟩ := ia_nil h4
      dsimp only at h5
      split at h5
      · rename_i i p oi
        split at h5
        · rename_i key n hkey hn
          split at h5
          · rename_i n' hset
            simp only [Pls] at pl
            obtain ⟨v1, r1, e1, hp, pl⟩ := pl
            cases e1
            have hoi : ∀ j q, oi = .pl j q → PlO G.ca H3 σ η3 j q iv := fun j q e => by
              subst e
              obtain ⟨v2, r2, e2, hq, _⟩ := pl
              cases e2
              exact hq
            exact store_at (oi := oi) o3 hn hp hoi hkey hset h5
          · exact False.elim h5
        · exact False.elim h5
      · exact False.elim h5
    · exact False.elim h1
/-! ### o.f = e -/
theorem putF_zip {f : Str} {v : V} : ∀ {ns : List Str} {vs : List V}, ns.length = vs.length → putF f v (ns.zip vs) = match fpos ns f with | some j => ns.zip (vs.set j v) | none => (ns ++ [f]).zip (vs ++ [v])
  | [], [], _ => rfl
  | x :: ns, u :: vs, h => by
    have ih := putF_zip (f := f) (v := v) (show ns.length = vs.length by simpa using h)
    simp only [List.zip_cons_cons, putF, fpos]
    by_cases e : x = f
    · rw [if_pos e, if_pos e]; rfl
    · rw [if_neg e, if_neg e, ih]
      cases fpos ns f with
      | none => rfl
      | some j => rfl
  | [], _ :: _, h => by simp at h
  | _ :: _, [], h => by simp at h
theorem fpos_lt : ∀ {ns : List Str} {f : Str} {j : Nat}, fpos ns f = some j → j < ns.length
  | [], _, _, h => by simp [fpos] at h
  | x :: ns, f, j, h => by
    simp only [fpos] at h
    split at h
    · cases h; simp
    · obtain ⟨i, hi, rfl⟩ := Option.map_eq_some_iff.mp h
      have := fpos_lt hi
      simp only [List.length_cons]; omega
theorem ps_asgAtI {o e : Expr} {f : Str} {co ce : CE} {pos pos' : Pos} (hC : ∀ c, C.cl.contains c = true → Cls X.K (G.ca c) ∧ NoAttr X.K (G.ca c) f) (ho : PE X o (IE G W (pu co) (evE C co))) (he : PE X e (IE G W (pu ce) (evE C ce)))
    (hs : swapsWith e (some (.Attribute o f pos')) pos.line X.env = pure false) : PS X (.Assign [.Attribute o f pos'] e pos) (IS G W (evS C (.asgAt co f ce))) :=
  ps_by (ps_fld ho he hs) fun D σ H h => by
    obtain ⟨R, F, η, ok, h⟩ := h
    simp only [evS] at h
    refine ie_mono (ie_outS (b := pu ce) ok h) fun v H1 ⟨F1, η1, x, s1, o1, hp1, _, _, h1⟩ => ?_
    dsimp only at h1
    split at h1
    · rename_i t η2 hk
      obtain ⟨F2, s2, o2, _⟩ := keep_ok o1 rfl (fun i p e _ => hp1 i p e) hk
      have h2 := EvS.shift h1 s2
      refine ie_mono (ie_outS (b := pu co) o2 h2) fun ov H2 ⟨F3, η3, y, s3, o3, hp3, _, _, h3⟩ => ?_
      dsimp only at h3
      split at h3
      · rename_i i p _
        split at h3
        · rename_i c ns vs hn
          split at h3
          · rename_i hc
            split at h3
            · rename_i n' hat
              obtain ⟨an, al, w, hl, hf, hcn, hF, back⟩ := Ok.write (l := [(v, t)]) (tmp := []) (by simpa [tms] using o3) hn (hp3 i p rfl)
              simp only [OkT] at hl
              obtain ⟨b1, b2, rfl, wt, rfl⟩ := hl
              rw [List.append_nil] at *
              obtain ⟨a, dx, us, r, rfl, rfl, ha, hdx, hlen, wo⟩ : ∃ a dx us r, ov = .ref a ∧ an = a :: dx :: r ∧ H2 a = some (.ins (G.ca c) dx (ns.zip us)) ∧ H2 dx = some (.own a) ∧ ns.length = us.length ∧ G.Owns F3 H2 vs us r := by simpa only [Own] using w
              have ne : ∀ b ∈ dx :: r ++ b1, b ≠ a := ne_of_count (l := dx :: r) hcn
              simp only [attT] at hat
              split at hat
              · rename_i hlt
                have hz : (ns.zip us).length < 1000 := by
                  rw [List.length_zip]; omega
                refine ⟨a, _, dx, _, rfl, ha, (hC c hc).1, (hC c hc).2, hz, ?_⟩
                rw [putF_zip hlen]
                have fw : ∀ {u : HO}, G.Owns F3 (upd H2 a u) vs us r := fun {u} => Owns.frame (Same.refl F3) _ _ _ (fr_upd fun b hb => ne b (by simp [hb])) wo
                have ft : ∀ {u : HO}, G.Own F3 (upd H2 a u) t v b1 := fun {u} => Own.frame (Same.refl F3) _ _ _ (fr_upd fun b hb => ne b (by simp [hb])) wt
                have hd : ∀ {u : HO}, upd H2 a u dx = some (.own a) := fun {u} => by rw [upd_ne (ne dx (by simp))]; exact hdx
                cases hfp : fpos ns f with
                | some j =>
                  rw [hfp] at hat
                  cases hat
                  dsimp only
                  have hj : j < vs.length := by have := fpos_lt hfp; rw [wo.length, ← hlen]; exact this
                  obtain ⟨u, pre, ak, post, e1, rfl, _, bk⟩ := (fw (u := .ins (G.ca c) dx (ns.zip (us.set j v)))).focus (List.getElem?_eq_getElem hj)
                  refine h3 F3 _ σ (Same.refl F3) (back _ _ (a :: dx :: (pre ++ b1 ++ post)) [] [] keep_upd ?_ rfl fun b => ?_)
                  · simp only [Own]
                    exact ⟨a, dx, us.set j v, _, rfl, rfl, upd_same, hd, by simpa using hlen, bk F3 _ t v b1 (Same.refl F3) (fun _ _ _ e => e) ft⟩
                  · simp only [List.append_nil, List.cons_append, List.count_cons, List.count_append]; omega
                | none =>
                  rw [hfp] at hat
                  cases hat
                  dsimp only
                  refine h3 F3 _ σ (Same.refl F3) (back _ _ (a :: dx :: (r ++ b1)) [] [] keep_upd ?_ rfl fun b => ?_)
                  · simp only [Own]
                    exact ⟨a, dx, us ++ [v], _, rfl, rfl, upd_same, hd, by simp [hlen], Owns.append fw (Owns.one ft)⟩
                  · simp only [List.append_nil, List.cons_append, List.count_cons, List.count_append]; omega
              · cases hat
            · exact False.elim h3
          · exact False.elim h3
        · exact False.elim h3
      · exact False.elim h3
    · exact False.elim h1
/-! ### augmented -/
def ipF (op : Operator) : TIp := fun x y H Q => ∃ a b c, x = .int a ∧ y = .int b ∧ augT op a b = some (.int c) ∧ Q (.int c) H
theorem augT_int {op : Operator} {a b : Int} {t : T} (h : augT op a b = some t) : ∃ c, t = .int c := by
  unfold augT at h
  split at h
  · cases h
  · unfold binT at h
    split at h <;> try contradiction
    all_goals (try split at h) <;> first | (cases h; exact ⟨_, rfl⟩) | (cases h)
theorem ip_F (op : Operator) : PIp X op (ipF op) := by
  intro pins s σ H x y v u Q I rx ry hh
  obtain ⟨a, b, c, rfl, rfl, h, q⟩ := hh
  cases op <;> simp only [augT, binT] at h <;> first
    | (cases h; exact iop_add pins s σ H _ _ v u Q I rx ry ⟨_, _, rfl, rfl, q⟩)
    | (cases h; exact iop_sub pins s σ H _ _ v u Q I rx ry ⟨_, _, rfl, rfl, q⟩)
    | (cases h; exact iop_and pins s σ H _ _ v u Q I rx ry ⟨_, _, rfl, rfl, q⟩)
    | (cases h; exact iop_or pins s σ H _ _ v u Q I rx ry ⟨_, _, rfl, rfl, q⟩)
    | (cases h; exact iop_xor pins s σ H _ _ v u Q I rx ry ⟨_, _, rfl, rfl, q⟩)
    | (split at h
       · rename_i hh
         cases h
         first
           | exact iop_mul pins s σ H _ _ v u Q I rx ry ⟨_, _, rfl, rfl, by unfold CMul; omega, q⟩
           | exact iop_fdiv pins s σ H _ _ v u Q I rx ry ⟨_, _, rfl, rfl, by unfold CDiv; omega, q⟩
           | exact iop_mod pins s σ H _ _ v u Q I rx ry ⟨_, _, rfl, rfl, hh, q⟩
           | exact iop_shl pins s σ H _ _ v u Q I rx ry ⟨_, _, rfl, rfl, by unfold CPow; omega, q⟩
           | exact iop_shr pins s σ H _ _ v u Q I rx ry ⟨_, _, rfl, rfl, hh, q⟩
       · cases h)
    | cases h
theorem dr_int {x : Opd} {v : V} {b : Int} (o : G.Ok R F H σ η (tms [x] [v] ++ tmp)) (hp : ∀ i p, x = .pl i p → PlO G.ca H σ η i p v) (h : dr η x = some (.int b)) : v = .int b :=
  dr_cv o (fun t e => by subst e; simp [tms]) hp h
theorem ps_augI {i : Nat} {x : Str} {e : Expr} {ce : CE} {op : Operator} {pos pos' : Pos} (hN : X.N.Nodup) (hi : X.N[i]? = some x) (hx : Loc X.env.scope x) (he : PE X e (IE G W (pu ce) (evE C ce)))
    (hf : X.fn x = true ∨ X.env.scope.names.lookup x = some .local) (hpn : ∀ j ∈ G.pn.map (·.1), C.pin.contains j = true) : PS X (.AugAssign (.Name x pos') op e pos) (IS G W (evS C (.aug i op ce))) :=
  ps_by (ps_aug hN hi hx he (ip_F op) hf) fun D σ H h => by
    obtain ⟨R, F, η, ok, h⟩ := h
    simp only [evS] at h
    split at h
    · rename_i a ha
      split at h
      · exact False.elim h
      · rename_i hpi
        obtain ⟨v, as, hs, w⟩ := Ok.slot ok ha
        simp only [Own] at w
        obtain ⟨_, rfl⟩ := w
        refine ⟨_, hs, ie_mono (ie_outS (b := pu ce) ok h) fun v H1 ⟨F1, η1, y, s1, o1, hp1, _, _, h1⟩ => ?_⟩
        dsimp only at h1
        split at h1
        · rename_i b hb
          split at h1
          · rename_i t ht
            obtain ⟨c, rfl⟩ := augT_int ht
            refine ⟨a, b, c, rfl, dr_int o1 hp1 hb, ht, ?_⟩
            have o2 := Ok.push (t := .int c) (v := .int c) (Ok.drop (tmp := []) o1) (by simp [View]) rfl
            by_cases hl : i < η1.length
            · exact h1 F1 H1 _ (Same.refl F1) (Ok.setSlot o2 hl fun m => hpi (hpn i m))
            · have hl2 := (Ok.drop1 o2).len
              have e1 : σ.set i (some (.int c)) = σ := List.set_eq_of_length_le (by omega)
              have e2 : η1.set i (some (.int c)) = η1 := List.set_eq_of_length_le (by omega)
              show D.nx (σ.set i (some (.int c))) H1
              rw [e1]
              rw [e2] at h1
              exact h1 F1 H1 σ (Same.refl F1) (Ok.drop1 o2)
          · exact False.elim h1
        · exact False.elim h1
    · exact False.elim h
/-! ### o[k] op= e -/
def rGt (ca : Nat → Addr) : V → V → Hp → VK → Prop := fun o i H Q => ∃ F n key an m a, Same F H ∧ Own ca F H n o an ∧ n.fl = true ∧ CV ca F H key i ∧ childOf n key = some m ∧ n.kids[m]? = some (.int a) ∧ Q (.int a) H
theorem get_T (hr : Room k X.A) : PGet X (rGt ca) := by
  intro pins s σ H o i ov iv Q I ro ri ⟨F, n, key, an, m, a, e, w, hf, ck, hm, ha, q⟩
  have hun := hr.un
  cases n with
  | lst b ts =>
    cases b with
    | false => cases hf
    | true =>
      obtain ⟨l, vs, rr, rfl, rfl, hl, wv⟩ := own_olist w
      unfold childOf at hm
      split at hm <;> try contradiction
      · rename_i ts' j e1
        cases e1
        have hm : ixN ts.length j = some m := hm
        obtain rfl := ck
        obtain ⟨y, pre, ak, post, hy, _, wy, _⟩ := wv.focus (show ts[m]? = some (.int a) from ha)
        simp only [Own] at wy
        obtain ⟨_, rfl⟩ := wy
        cases ro
        obtain ⟨t, rfl⟩ := ri
        obtain ⟨hz, its, nn, r, hlen, e2⟩ := I.lstM hl
        obtain ⟨h1, h2, h3, h4⟩ := ixN_seq hm
        obtain ⟨u, hu, ru⟩ := r.get hy
        have hsl := sizeLine_eq
        have hwl := wv.length
        by_cases h0 : 0 ≤ j
        · have hj : j.toNat = m := by
            rw [seqIndex_of h0 h4] at h1
            exact Option.some.inj h1
          exact wpAny_getItem_list ⟨_, e2, rfl, _, rfl⟩ h0 (by omega) (by rw [hj]; simpa using hu) ⟨_, H, I, ru, q⟩
        · have hj : (j + (its.toArray.size : Int)).toNat = m := by
            rw [seqIndex_neg (by omega) h3] at h1
            rw [List.size_toArray, ← hlen, ← hwl]
            exact Option.some.inj h1
          exact wpAny_getItem_list_neg ⟨_, e2, rfl, _, rfl⟩ (by omega) (by rw [List.size_toArray, ← hlen, ← hwl]; omega) (by omega) (by rw [hj]; simpa using hu) ⟨_, H, I, ru, q⟩
  | dic b ks ts =>
    cases b with
    | false => cases hf
    | true =>
      obtain ⟨l, vs, rr, rfl, rfl, hl, wv⟩ : ∃ a vs r, o = .ref a ∧ an = a :: r ∧ DicAt H a ks vs ∧ Owns ca F H ts vs r := by simpa only [Own] using w
      simp only [childOf] at hm
      split at hm
      · rename_i hk
        cases ro
        obtain ⟨y, pre, ak, post, hy, _, wy, _⟩ := wv.focus (show ts[m]? = some (.int a) from ha)
        simp only [Own] at wy
        obtain ⟨_, rfl⟩ := wy
        obtain ⟨H2, g, i1, i2⟩ := dic_any (X := X) (pins := pins) (σ := σ) hl hk e ck
        rw [hm] at g
        simp only [Option.bind_some, hy] at g
        exact d_getItem (by omega) (i1 s I) g ri fun w' s' I' rw' => ⟨_, H, i2 s' I', rw', q⟩
      · cases hm
  | obj b c ns ts => cases key <;> simp [childOf] at hm
  | _ => cases hf
theorem ps_augIxI (hr : Room k X.A) {o i e : Expr} {co ci ce : CE} {op : Operator} {pos pos' : Pos} (ho : PE X o (IE G W (pu co) (evE C co))) (hi : PE X i (IE G W (pu ci) (evE C ci))) (he : PE X e (IE G W (pu ce) (evE C ce)))
    (ha : ∀ ov iv new, augStore i ov iv new = (do holding [new, ov, iv] (setItem ov iv new); release [new, ov, iv] []; pure .next)) : PS X (.AugAssign (.Subscript o i pos') op e pos) (IS G W (evS C (.augIx co ci op ce))) :=
  ps_by (ps_augS ho hi (get_T (ca := G.ca) hr) he (ip_F op) (set_T (ca := G.ca) hr) ha) fun D σ H h => by
    obtain ⟨R, F, η, ok, h⟩ := h
    simp only [evS] at h
    refine ie_mono (ia_cons (ia_outS ok h)) fun ov H2 h3 => ie_mono (ia_cons h3) fun iv H3 h4 => ?_
    obtain ⟨F3, η3, os, s3, o3, pl, h5⟩ := ia_nil h4
    dsimp only at h5
    split at h5
    · rename_i i p key
      simp only [Pls] at pl
      obtain ⟨v1, r1, e1, hp, v2, r2, e2, e3⟩ := pl
      cases e1
      cases e2
      split at h5
      · rename_i n hn
        split at h5
        · rename_i m hm
          split at h5
          · rename_i a ha
            split at h5
            · rename_i hsh
              have o3 : G.Ok R F3 H3 σ η3 [(iv, key)] := by simpa [tms] using o3
              obtain ⟨an, al, w, hl, hf, hcn, hF, back⟩ := Ok.write (l := [(iv, key)]) (tmp := []) o3 hn hp
              obtain ⟨as, wk⟩ := Ok.top o3
              refine ⟨F3, n, key, an, m, a, o3.same, w, hf, wk.cv hsh o3.same, hm, ha, ?_⟩
              refine ie_mono (ie_outS (b := pu ce) o3 h5) fun v H4 ⟨F4, η4, y, s4, o4, hp4, sH, _, h6⟩ => ?_
              dsimp only at h6
              split at h6
              · rename_i hst
                split at h6
                · rename_i b n2 hb hn2
                  split at h6
                  · rename_i t ht
                    obtain ⟨c, rfl⟩ := augT_int ht
                    refine ⟨a, b, c, rfl, dr_int o4 hp4 hb, ht, ?_⟩
                    split at h6
                    · rename_i n' hset
                      have o5 : G.Ok R F4 H4 σ η4 [(iv, key)] := Ok.drop o4
                      have hp5 := hp.stay hst sH
                      refine store_at (oi := .v key) (key := key) (t := .int c) (by
                        have := Ok.push (v := .int c) (t := .int c) o5 (by simp [View]) rfl
                        exact Ok.perm (List.Perm.swap _ _ _) this) hn2 hp5 (fun _ _ e => by cases e) (by simp [dr, hsh]) hset h6
                    · exact False.elim h6
                  · exact False.elim h6
                · exact False.elim h6
              · exact False.elim h6
            · exact False.elim h5
          · exact False.elim h5
        · exact False.elim h5
      · exact False.elim h5
    · exact False.elim h5
end
end TV
/-! what is walked; for -/
namespace TV
open PySem L2
/-- J walks the trees ts, as long as F is known -/
structure WalkT (ca : Nat → Addr) (J : It) (F : Hp) (ts : List T) : Prop where
  go : ∀ i H t, ts[i]? = some t → Same F H → J.go i H ∧ ∀ x H', J.yld i H x H' → (H' = H ∧ View ca F t x) ∨ (∃ p us ts', t = .tup ts' ∧ H p = none ∧ H' = upd H p (.tup us) ∧ x = .ref p ∧ Views ca F ts' us)
  stop : ∀ H, Same F H → J.stop ts.length H
  fz : fzs ts = true
abbrev IClo := Env → TV.R (List T × Env)
def II (G : Par) (W : WX) (f : IClo) : TI := fun σ H K => ∃ R F η tmp, G.Ok R F H σ η tmp ∧ match f η with
  | .ok (ts, η') => ∀ F' H' J, Same F F' → G.Ok R F' H' σ η' tmp → WalkT G.ca J F' ts → K J H'
  | .exc c p η' => ∀ F' H' d, Same F F' → G.Ok R F' H' σ η' tmp → Exh G F' H' c p d → W (.ref (G.ca c)) d σ H'
  | .err => False
section
variable {X : Cx} {G : Par} {W : WX} {C : Ctx} {R F H : Hp} {σ : St} {η : Env} {D : Ends} {tmp : List (V × T)} {ca : Nat → Addr} {k : Nat} {tg : Expr}
theorem pi_ex {e : Expr} {wi' : TI} (h : ∀ σ H R, wi' σ H R → ∃ wi, PI X tg e wi ∧ wi σ H R) : PI X tg e wi' :=
  ⟨fun pins s σ H R I q => by
    obtain ⟨wi, h1, h2⟩ := h σ H R q
    exact h1.run pins s σ H R I h2⟩
theorem walk_list {K : PySem.W.Frag} {o : Bool} {ts : List T} {v : V} (hv : View ca F (.lst o ts) v) (hf : fzs ts = true) : ∃ a xs, v = .ref a ∧ (∀ H, Same F H → SqL K H a xs) ∧ WalkT ca (Itl K a) F ts := by
  simp only [View] at hv
  obtain ⟨a, vs, rfl, ha, hv⟩ := hv
  have hl := hv.length
  have sq : ∀ H, Same F H → SqL K H a vs := fun H s => .inl (Same.rd s ha)
  refine ⟨a, vs, rfl, sq, fun i H t ht s => ?_, fun H s => ⟨vs, sq H s, by rw [hl]; exact Nat.le_refl _⟩, hf⟩
  obtain ⟨x, hx, vx⟩ := hv.get ht
  refine ⟨⟨vs, x, sq H s, hx⟩, fun y H' ⟨e, h⟩ => .inl ⟨e, ?_⟩⟩
  have := h vs (sq H s)
  rw [hx] at this
  obtain rfl := Option.some.inj this
  exact vx
theorem walk_tup {K : PySem.W.Frag} {ts : List T} {v : V} (hv : View ca F (.tup ts) v) (hf : fzs ts = true) : ∃ a xs, v = .ref a ∧ (∀ H, Same F H → SqT K H a xs) ∧ WalkT ca (Itt K a) F ts := by
  simp only [View] at hv
  obtain ⟨a, vs, rfl, ha, hv⟩ := hv
  have hl := hv.length
  have sq : ∀ H, Same F H → SqT K H a vs := fun H s => .inl (.inl (s _ _ ha))
  refine ⟨a, vs, rfl, sq, fun i H t ht s => ?_, fun H s => ⟨vs, sq H s, by rw [hl]; exact Nat.le_refl _⟩, hf⟩
  obtain ⟨x, hx, vx⟩ := hv.get ht
  refine ⟨⟨vs, x, sq H s, hx⟩, fun y H' ⟨e, h⟩ => .inl ⟨e, ?_⟩⟩
  have := h vs (sq H s)
  rw [hx] at this
  obtain rfl := Option.some.inj this
  exact vx
theorem walk_rng {lo : Int} {n : Nat} {ts : List T} (h : ts = (List.range n).map fun (i : Nat) => T.int (lo + i)) : WalkT ca (Itr lo n) F ts := by
  subst h
  refine ⟨fun i H t ht s => ?_, fun H s => (by simp : n ≤ _), fzs_of fun t m => ?_⟩
  · rw [List.getElem?_map] at ht
    obtain ⟨j, hj, rfl⟩ := Option.map_eq_some_iff.mp ht
    obtain ⟨hi, e⟩ := List.getElem?_eq_some_iff.mp hj
    simp only [List.getElem_range] at e
    subst e
    refine ⟨show i < n by simpa using hi, fun x H' ⟨e, h⟩ => .inl ⟨e, by simp only [View]; exact h⟩⟩
  · obtain ⟨j, _, rfl⟩ := List.mem_map.mp m
    rfl
/-- e walked, a list or a tuple -/
theorem pi_valI {e : Expr} {ce : CE} (he : PE X e (IE G W (pu ce) (evE C ce))) : PI X tg e (II G W (evIt C (.val ce))) := pi_ex fun σ H K h => by
  obtain ⟨R, F, η, tmp, o, h⟩ := h
  simp only [evIt] at h
  cases e1 : evE C ce η with
  | err => rw [e1] at h; exact False.elim h
  | exc c p η' =>
    rw [e1] at h
    exact ⟨_, pi_list he, R, F, η, tmp, o, by rw [e1]; exact h⟩
  | ok r =>
    obtain ⟨x, η1⟩ := r
    rw [e1] at h
    simp only [TV.R.bind] at h
    cases hfr : fre η1 x with
    | none => rw [hfr] at h; exact False.elim h
    | some r2 =>
      obtain ⟨t, η2⟩ := r2
      rw [hfr] at h
      dsimp only at h
      cases hs : seqOf t with
      | none => rw [hs] at h; exact False.elim h
      | some ts =>
        rw [hs] at h
        dsimp only at h
        have fin : ∀ {wi : V → Hp → Prop}, (∀ F' H' v, Same F F' → G.Ok R F' H' σ η2 tmp → G.View F' t v → t.fz = true → wi v H') → IE G W (pu ce) (evE C ce) σ H wi := fun {wi} k => by
          refine ⟨R, F, η, tmp, o, ?_⟩
          rw [e1]
          cases x with
          | v u =>
            intro F' H' v s1 _ o1
            obtain ⟨F2, s2, o2, hv, hf, _⟩ := fre_ok (x := .v u) (v := v) (tmp := tmp) o1 (by simp [tms]) (fun _ _ e => by cases e) hfr
            exact k F2 H' v (s1.trans s2) o2 hv hf
          | pl i p =>
            intro F' H' v s1 _ o1 hp
            obtain ⟨F2, s2, o2, hv, hf, _⟩ := fre_ok (x := .pl i p) (v := v) (tmp := tmp) o1 (by simp [tms]) (fun i p e _ => by cases e; exact hp) hfr
            exact k F2 H' v (s1.trans s2) o2 hv hf
        cases t with
        | lst b us =>
          cases hs
          refine ⟨_, pi_list he, fin fun F' H' v s1 o1 hv hf => ?_⟩
          have hf : fzs ts = true := by cases b <;> simp [T.fz] at hf <;> exact hf
          obtain ⟨a, xs, rfl, sq, w⟩ := walk_list (K := X.K) hv hf
          exact ⟨a, rfl, ⟨xs, sq H' o1.same⟩, h F' H' _ s1 o1 w⟩
        | tup us =>
          cases hs
          refine ⟨_, pi_tup he, fin fun F' H' v s1 o1 hv hf => ?_⟩
          have hf : fzs ts = true := by simpa [T.fz] using hf
          obtain ⟨a, xs, rfl, sq, w⟩ := walk_tup (K := X.K) hv hf
          exact ⟨a, rfl, ⟨xs, sq H' o1.same⟩, h F' H' _ s1 o1 w⟩
        | _ => simp [seqOf] at hs
theorem drs_len {η : Env} : ∀ {os : List Opd} {ts : List T}, drs η os = some ts → ts.length = os.length
  | [], ts, h => by simp only [drs] at h; cases h; rfl
  | x :: os, ts, h => by
    simp only [drs] at h
    split at h
    · rename_i h1 h2
      cases h
      rw [List.length_cons, List.length_cons, drs_len h2]
    · cases h
theorem rng_ia {ces : List CE} {K : It → Hp → Prop} {Q : List V → Hp → Prop} (h : II G W (evIt C (.rng ces)) σ H K)
    (kk : ∀ ts r F' H' vs, ts.length = ces.length → rngT ts = some r → CVs G.ca F' H' ts vs → (∀ J, WalkT G.ca J F' r → K J H') → Q vs H') : IA G W (clos C ces) σ H Q := by
  obtain ⟨R, F, η, tmp, o, h⟩ := h
  simp only [evIt] at h
  have hev : evs C ces = evL (clos C ces) := funext (evs_evL C ces)
  rw [hev] at h
  refine ⟨R, F, η, tmp, o, ?_⟩
  cases e : evL (clos C ces) η with
  | err => rw [e] at h; exact h
  | exc c p η' => rw [e] at h; exact h
  | ok r =>
    obtain ⟨os, η1⟩ := r
    rw [e] at h
    simp only [TV.R.bind] at h
    cases hd : drs η1 os with
    | none => rw [hd] at h; exact False.elim h
    | some ts =>
      rw [hd] at h
      dsimp only at h
      cases hr : rngT ts with
      | none => rw [hr] at h; exact False.elim h
      | some r =>
        rw [hr] at h
        exact fun F' H' vs s1 _ o' pl => kk ts r F' H' vs (by rw [drs_len hd, evL_len e]; simp [clos]) hr (drs_cv o' tms_mem pl hd) fun J w => h F' H' J s1 (Ok.drop o') w
/-- range(..) -/
theorem pi_rng1I {a : Expr} {ce : CE} {p pos : Pos} (hg : Gl X "range") (hm : X.mg "range" = none) (ha : PA X [a] (IA G W (clos C [ce]))) (hs : starEach [a] X.env = [(false, eval a X.env)]) :
    PI X tg (.Call (.Name "range" p) [a] [] pos) (II G W (evIt C (.rng [ce]))) := pi_ex fun σ H K h => ⟨_, pi_range1 hg hm ha hs, rng_ia h fun ts r F' H' vs hl hr cv kk => by
  unfold rngT at hr
  split at hr
  · rename_i n
    split at hr
    · rename_i hb
      cases hr
      obtain ⟨v, rfl, c1⟩ := cvs1 cv
      exact ⟨n, by rw [show v = .int n from c1], by omega, by omega, kk _ (walk_rng (by simp))⟩
    · cases hr
  · simp at hl
  · cases hr⟩
theorem pi_rng2I {a b : Expr} {ca cb : CE} {p pos : Pos} (hg : Gl X "range") (hm : X.mg "range" = none) (ha : PA X [a, b] (IA G W (clos C [ca, cb]))) (hs : starEach [a, b] X.env = [(false, eval a X.env), (false, eval b X.env)]) (hs2 : starEach [b] X.env = [(false, eval b X.env)]) :
    PI X tg (.Call (.Name "range" p) [a, b] [] pos) (II G W (evIt C (.rng [ca, cb]))) := pi_ex fun σ H K h => ⟨_, pi_range2 hg hm ha hs hs2, rng_ia h fun ts r F' H' vs hl hr cv kk => by
  unfold rngT at hr
  split at hr
  · simp at hl
  · rename_i i j
    split at hr
    · rename_i hb
      cases hr
      obtain ⟨v, w, rfl, c1, c2⟩ := cvs2 cv
      exact ⟨i, j, by rw [show v = .int i from c1, show w = .int j from c2], ⟨by omega, by omega, by omega, by omega⟩, kk _ (walk_rng rfl)⟩
    · cases hr
  · cases hr⟩
/-- operands handed on whole, then walked -/
theorem args_ia {fs : List BClo} {f : IClo} {g : List T → Option (List T)} {K : It → Hp → Prop} {Q : List V → Hp → Prop} (hf : ∀ η, f η = (evL fs η).bind fun x => match args x.1 [] x.2 with
      | some (ts, η', _) => (match g ts with | some r => .ok (r, η') | none => .err)
      | none => .err) (h : II G W f σ H K)
    (kk : ∀ ts r F' H' vs, g ts = some r → G.Views F' ts vs → fzs ts = true → Same F' H' → (∀ J, WalkT G.ca J F' r → K J H') → Q vs H') : IA G W fs σ H Q := by
  obtain ⟨R, F, η, tmp, o, h⟩ := h
  rw [hf] at h
  refine ⟨R, F, η, tmp, o, ?_⟩
  cases e : evL fs η with
  | err => rw [e] at h; exact h
  | exc c p η' => rw [e] at h; exact h
  | ok r =>
    obtain ⟨os, η1⟩ := r
    rw [e] at h
    simp only [TV.R.bind] at h
    cases ha : args os [] η1 with
    | none => rw [ha] at h; exact False.elim h
    | some r2 =>
      obtain ⟨ts, η2, is⟩ := r2
      rw [ha] at h
      dsimp only at h
      cases hr : g ts with
      | none => rw [hr] at h; exact False.elim h
      | some r =>
        rw [hr] at h
        intro F' H' vs s1 _ o' pl
        obtain ⟨F2, s2, o2, hv, hz⟩ := args_fz ha o' pl
        exact kk ts r F2 H' vs hr hv hz o2.same fun J w => h F2 H' J (s1.trans s2) o2 w
def enumG : List T → Option (List T)
  | [.lst _ ts] => some ((ts.zipIdx).map fun y => .tup [.int y.2, y.1])
  | _ => none
def zipG : List T → Option (List T)
  | [.lst _ ts, .lst _ us] => some ((ts.zip us).map fun y => .tup [y.1, y.2])
  | [.tup ts, .tup us] => some ((ts.zip us).map fun y => .tup [y.1, y.2])
  | _ => none
theorem pi_enumI {e : Expr} {ce : CE} {p pos tpos : Pos} {elts : List Expr} {kk : Nat} (hg : Gl X "enumerate") (hm : X.mg "enumerate" = none) (ha : PA X [e] (IA G W (clos C [ce]))) (hs : starEach [e] X.env = [(false, eval e X.env)]) :
    PI X (.Tuple elts kk tpos) (.Call (.Name "enumerate" p) [e] [] pos) (II G W (evIt C (.enum ce))) := pi_ex fun σ H K h => ⟨_, pi_enum hg hm ha hs, args_ia (g := enumG) (fun η => by
    simp only [evIt, clos, List.map_cons, List.map_nil]
    congr 1
    funext x
    cases args x.1 [] x.2 with
    | none => rfl
    | some r =>
      obtain ⟨ts, η', is⟩ := r
      match ts with
      | [] => rfl
      | [.lst _ _] => rfl
      | [.non] => rfl
      | [.bl _] => rfl
      | [.int _] => rfl
      | [.str _] => rfl
      | [.tup _] => rfl
      | [.dic _ _ _] => rfl
      | [.obj _ _ _ _] => rfl
      | _ :: _ :: _ => simp [enumG]) h fun ts r F' H' vs hr hv hz sH kk => by
  unfold enumG at hr
  split at hr
  · rename_i o us
    cases hr
    simp only [Views] at hv
    obtain ⟨v, r, rfl, hv, rfl⟩ := hv
    have hf : fzs us = true := by cases o <;> simp [fzs, T.fz] at hz <;> exact hz
    simp only [View] at hv
    obtain ⟨a, vs, rfl, hA, hv⟩ := hv
    have sq : ∀ H, Same F' H → SqL X.K H a vs := fun H s => .inl (Same.rd s hA)
    refine ⟨a, vs, rfl, sq H' sH, kk _ ⟨fun i H2 t ht s => ?_, fun H2 s => ⟨vs, sq H2 s, by rw [← hv.length]; simp⟩, fzs_of fun t m => ?_⟩⟩
    · rw [List.getElem?_map] at ht
      obtain ⟨⟨u, j⟩, hu, rfl⟩ := Option.map_eq_some_iff.mp ht
      rw [List.getElem?_zipIdx] at hu
      obtain ⟨u', hu', e⟩ := Option.map_eq_some_iff.mp hu
      cases e
      obtain ⟨x, hx, vx⟩ := hv.get hu'
      refine ⟨⟨vs, x, sq H2 s, hx⟩, fun y H3 ⟨T0, x0, e1, e2, e3, h⟩ => .inr ⟨T0, _, _, rfl, e2, e3, e1, ?_⟩⟩
      have := h vs (sq H2 s)
      rw [hx] at this
      obtain rfl := Option.some.inj this
      simp only [Views, View]
      exact ⟨_, _, rfl, by simp, _, _, rfl, vx, rfl⟩
    · obtain ⟨⟨u, j⟩, hm, rfl⟩ := List.mem_map.mp m
      have : u ∈ us := by
        obtain ⟨i, hi⟩ := List.mem_iff_getElem?.mp hm
        rw [List.getElem?_zipIdx] at hi
        obtain ⟨u', hu', e⟩ := Option.map_eq_some_iff.mp hi
        cases e
        exact List.mem_of_getElem? hu'
      simp [T.fz, fzs, fzs_mem hf this]
  · cases hr⟩
theorem zip_views {ts us : List T} {xs ys : List V} {i : Nat} {t : T} (hx : Views ca F ts xs) (hy : Views ca F us ys) (h : ((ts.zip us).map fun y => T.tup [y.1, y.2])[i]? = some t) : ∃ a b x y, t = .tup [a, b] ∧ ts[i]? = some a ∧ us[i]? = some b ∧ xs[i]? = some x ∧ ys[i]? = some y ∧ Views ca F [a, b] [x, y] := by
  rw [List.getElem?_map] at h
  obtain ⟨⟨a, b⟩, hu, rfl⟩ := Option.map_eq_some_iff.mp h
  obtain ⟨h1, h2⟩ := List.getElem?_zip_eq_some.mp hu
  obtain ⟨x, hx1, vx⟩ := hx.get h1
  obtain ⟨y, hy1, vy⟩ := hy.get h2
  exact ⟨a, b, x, y, rfl, h1, h2, hx1, hy1, by simp only [Views]; exact ⟨_, _, rfl, vx, _, _, rfl, vy, rfl⟩⟩
theorem zip_fz {ts us : List T} (h1 : fzs ts = true) (h2 : fzs us = true) : fzs ((ts.zip us).map fun y => T.tup [y.1, y.2]) = true := fzs_of fun t m => by
  obtain ⟨⟨u, w⟩, hm, rfl⟩ := List.mem_map.mp m
  obtain ⟨m1, m2⟩ := List.of_mem_zip hm
  simp [T.fz, fzs, fzs_mem h1 m1, fzs_mem h2 m2]
theorem pi_zipI {e e2 : Expr} {c1 c2 : CE} {p pos tpos : Pos} {elts : List Expr} {kk : Nat} (hg : Gl X "zip") (hm : X.mg "zip" = none) (ha : PA X [e, e2] (IA G W (clos C [c1, c2]))) (hs : starEach [e, e2] X.env = (false, eval e X.env) :: starEach [e2] X.env) (hpl : (backTo pos (starEach [e2] X.env)).any (·.1) = false) :
    PI X (.Tuple elts kk tpos) (.Call (.Name "zip" p) [e, e2] [] pos) (II G W (evIt C (.zip c1 c2))) := pi_ex fun σ H K h => ⟨_, RZ.pi_zipA hg hm ha hs hpl, args_ia (g := zipG) (fun η => by
    simp only [evIt, clos, List.map_cons, List.map_nil]
    congr 1
    funext x
    cases args x.1 [] x.2 with
    | none => rfl
    | some r =>
      obtain ⟨ts, η', is⟩ := r
      match ts with
      | [] => rfl
      | [_] => simp [zipG]
      | _ :: _ :: _ :: _ => simp [zipG]
      | [a, b] => cases a <;> cases b <;> simp [zipG]) h fun ts r F' H' vs hr hv hz sH kk => by
  unfold zipG at hr
  split at hr
  · rename_i o us o2 ws
    cases hr
    simp only [Views] at hv
    obtain ⟨v, r, rfl, hv, v2, r2, rfl, hv2, rfl⟩ := hv
    simp only [fzs, Bool.and_eq_true] at hz
    have hf1 : fzs us = true := by cases o <;> simp [T.fz] at hz <;> exact hz.1
    have hf2 : fzs ws = true := by cases o2 <;> simp [T.fz] at hz <;> exact hz.2
    simp only [View] at hv hv2
    obtain ⟨a, xs, rfl, hA, hv⟩ := hv
    obtain ⟨b, ys, rfl, hB, hv2⟩ := hv2
    have sa : ∀ H, Same F' H → SqL X.K H a xs := fun H s => .inl (Same.rd s hA)
    have sb : ∀ H, Same F' H → SqL X.K H b ys := fun H s => .inl (Same.rd s hB)
    refine ⟨a, b, xs, ys, rfl, .inl ⟨sa H' sH, sb H' sH, kk _ ⟨fun i H2 t ht s => ?_, fun H2 s => ⟨xs, ys, sa H2 s, sb H2 s, ?_⟩, zip_fz hf1 hf2⟩⟩⟩
    · obtain ⟨a1, b1, x, y, rfl, _, _, hx, hy, vv⟩ := zip_views hv hv2 ht
      refine ⟨⟨xs, ys, x, y, sa H2 s, sb H2 s, hx, hy⟩, fun z H3 ⟨T0, x0, y0, e1, e2, e3, h1, h2⟩ => .inr ⟨T0, _, _, rfl, e2, e3, e1, ?_⟩⟩
      have q1 := h1 xs (sa H2 s)
      have q2 := h2 ys (sb H2 s)
      rw [hx] at q1
      rw [hy] at q2
      obtain rfl := Option.some.inj q1
      obtain rfl := Option.some.inj q2
      exact vv
    · rw [← hv.length, ← hv2.length, List.length_map, List.length_zip]; omega
  · rename_i us ws
    cases hr
    simp only [Views] at hv
    obtain ⟨v, r, rfl, hv, v2, r2, rfl, hv2, rfl⟩ := hv
    simp only [fzs, T.fz, Bool.and_eq_true] at hz
    have hf1 : fzs us = true := hz.1
    have hf2 : fzs ws = true := hz.2.1
    simp only [View] at hv hv2
    obtain ⟨a, xs, rfl, hA, hv⟩ := hv
    obtain ⟨b, ys, rfl, hB, hv2⟩ := hv2
    have sa : ∀ H, Same F' H → SqT X.K H a xs := fun H s => .inl (.inl (s _ _ hA))
    have sb : ∀ H, Same F' H → SqT X.K H b ys := fun H s => .inl (.inl (s _ _ hB))
    refine ⟨a, b, xs, ys, rfl, .inr ⟨sa H' sH, sb H' sH, kk _ ⟨fun i H2 t ht s => ?_, fun H2 s => ⟨xs, ys, sa H2 s, sb H2 s, ?_⟩, zip_fz hf1 hf2⟩⟩⟩
    · obtain ⟨a1, b1, x, y, rfl, _, _, hx, hy, vv⟩ := zip_views hv hv2 ht
      refine ⟨⟨xs, ys, x, y, sa H2 s, sb H2 s, hx, hy⟩, fun z H3 ⟨T0, x0, y0, e1, e2, e3, h1, h2⟩ => .inr ⟨T0, _, _, rfl, e2, e3, e1, ?_⟩⟩
      have q1 := h1 xs (sa H2 s)
      have q2 := h2 ys (sb H2 s)
      rw [hx] at q1
      rw [hy] at q2
      obtain rfl := Option.some.inj q1
      obtain rfl := Option.some.inj q2
      exact vv
    · rw [← hv.length, ← hv2.length, List.length_map, List.length_zip]; omega
  · cases hr⟩
end
end TV
/-! for; list comprehensions -/
namespace TV
open PySem L2
section
variable {X : Cx} {G : Par} {W : WX} {C : Ctx} {R F H : Hp} {σ : St} {η : Env} {D : Ends} {tmp : List (V × T)} {ca : Nat → Addr} {k : Nat} {tg : Expr}
theorem walk_step {J : It} {F0 : Hp} {ts : List T} {i : Nat} {t : T} {x : V} {H' : Hp} {pn : List (Nat × V)} (w : WalkT ca J F0 ts) (s : Same F0 F) (o : TV.Ok ca pn R F H σ η tmp) (ht : ts[i]? = some t) (hy : J.yld i H x H') :
    ∃ F', Same F F' ∧ TV.Ok ca pn R F' H' σ η tmp ∧ View ca F' t x ∧ t.fz = true := by
  have hf := fzs_mem w.fz (List.mem_of_getElem? ht)
  rcases (w.go i H t ht (s.trans o.same)).2 x H' hy with ⟨rfl, hv⟩ | ⟨p, us, ts', rfl, hp, rfl, rfl, hv⟩
  · exact ⟨F, Same.refl F, o, View.mono s _ _ hv, hf⟩
  · have hf' : fzs ts' = true := by simpa [T.fz] using hf
    obtain ⟨sf, o'⟩ := o.newTup hp (Views.mono s _ _ hv) hf'
    obtain ⟨as, w⟩ := Ok.top o'
    exact ⟨_, sf, Ok.drop1 o', (Own.of_fz hf w).2, hf⟩
theorem ps_forI {iter : Expr} {it : IT} {ft : FT} {body : List Stmt} {cb : List CS} {pos : Pos} (hp : PassesOwn (model X.prog X.w) X.A X.env X.xe) (hc : X.calm = true) (hi : PI X tg iter (II G W (evIt C it))) (hg : PG X tg (IG G C ft)) (hb : PSs X body (IS G W (evB C cb)))
    (hs : ∀ x, foldedSetIterable iter X.env x = pure x) : PS X (.For tg iter body [] pos) (IS G W (evS C (.for_ ft it cb))) :=
  ps_by (ps_for hp hc hi hg hb hs) fun D σ H h => by
    obtain ⟨R, F, η, o, h⟩ := h
    simp only [evS] at h
    refine ⟨R, F, η, [], o, ?_⟩
    cases e : evIt C it η with
    | err => rw [e] at h; exact h
    | exc c p η' => rw [e] at h; exact fun F' H' d s1 o' ex => h F' H' σ d s1 o' ex
    | ok r =>
      obtain ⟨ts, η1⟩ := r
      rw [e] at h
      simp only [TV.R.out] at h
      intro F0 H1 J s1 o1 w
      let f : T → Env → Out := fun t η => if ft.slots.any C.pin.contains then .er else match bindF ft t η with
        | some η₁ => evB C cb η₁
        | none => .er
      have h : EvS G W R F0 D (forL f ts η1) := EvS.shift h s1
      refine ⟨fun i m σ H => m = ts.length - i ∧ i ≤ ts.length ∧ ∃ R F η, Same F0 F ∧ G.Ok R F H σ η [] ∧ EvS G W R F D (forL f (ts.drop i) η), ⟨ts.length, by simp, Nat.zero_le _, R, F0, η1, Same.refl F0, o1, h⟩, fun i m σ H ⟨hm, hi, R, F, η, s2, o2, h2⟩ => ?_⟩
      by_cases hlt : i < ts.length
      · have ht : ts[i]? = some ts[i] := List.getElem?_eq_getElem hlt
        rw [List.drop_eq_getElem_cons hlt] at h2
        simp only [forL] at h2
        refine .inr ⟨(w.go i H _ ht (s2.trans o2.same)).1, fun σ' H' => ∃ R F η, Same F0 F ∧ G.Ok R F H' σ' η [] ∧ EvS G W R F D (forL f (ts.drop (i + 1)) η), fun σ' H' q => ⟨ts.length - (i + 1), by omega, rfl, hlt, q⟩, fun x H' hy => ?_⟩
        obtain ⟨F2, s3, o3, hv, hf⟩ := walk_step w s2 o2 ht hy
        have h3 := EvS.shift h2 s3
        by_cases hpin : ft.slots.any C.pin.contains = true
        · simp only [f, hpin, if_true] at h3
          exact False.elim h3
        · have hpin : ft.slots.any C.pin.contains = false := by simpa using hpin
          cases hbd : bindF ft ts[i] η with
          | none =>
            simp only [f, hpin, hbd] at h3
            exact False.elim h3
          | some η3 =>
            refine ⟨R, F2, η, ts[i], [], o3, hv, hf, hpin, η3, hbd, fun σ2 _ o4 => ⟨R, F2, η3, o4, ?_⟩⟩
            have e2 : f ts[i] η = evB C cb η3 := by simp only [f, hpin, hbd] <;> rfl
            rw [e2] at h3
            cases e3 : evB C cb η3 with
            | nx η' => rw [e3] at h3; exact fun F' H' σ' s5 o5 => ⟨R, F', η', (s2.trans s3).trans s5, o5, EvS.shift h3 s5⟩
            | ct η' => rw [e3] at h3; exact fun F' H' σ' s5 o5 => ⟨R, F', η', (s2.trans s3).trans s5, o5, EvS.shift h3 s5⟩
            | bk η' => rw [e3] at h3; exact h3
            | rt t η' => rw [e3] at h3; exact h3
            | ex c p η' => rw [e3] at h3; exact h3
            | er => rw [e3] at h3; exact h3
      · have e2 : i = ts.length := by omega
        subst e2
        rw [List.drop_length] at h2
        simp only [forL] at h2
        exact .inl ⟨w.stop H (s2.trans o2.same), h2 F H σ (Same.refl F) o2⟩
/-! ### comprehensions -/
/-- the tests of a clause -/
def IBs (G : Par) (W : WX) (f : Env → TV.R (Bool × Env)) : TT := fun σ H Q => ∃ R F η tmp, G.Ok R F H σ η tmp ∧ match f η with
  | .ok (b, η') => ∀ F' H', Same F F' → G.Ok R F' H' σ η' tmp → Q b H'
  | .exc c p η' => ∀ F' H' d, Same F F' → G.Ok R F' H' σ η' tmp → Exh G F' H' c p d → W (.ref (G.ca c)) d σ H'
  | .err => False
theorem pts_by {es : List Expr} {te te' : TT} (h : PTs X es te) (k : ∀ σ H Q, te' σ H Q → te σ H Q) : PTs X es te' :=
  ⟨fun pins s σ H Q I q => h.run pins s σ H Q I (k σ H Q q)⟩
theorem pts_nilI : PTs X [] (IBs G W (evTs C [])) := pts_by pts_nil fun σ H Q ⟨R, F, η, tmp, o, h⟩ => by
  simp only [evTs] at h
  exact h F H (Same.refl F) o
theorem pts_oneI {e : Expr} {ce : CE} (h : PT X e (IB G W (evE C ce))) : PTs X [e] (IBs G W (evTs C [ce])) := pts_by (pts_one h) fun σ H Q ⟨R, F, η, tmp, o, h⟩ => by
  refine ⟨R, F, η, tmp, o, ?_⟩
  simp only [evTs] at h
  cases e : evE C ce η with
  | err => rw [e] at h; exact h
  | exc c p η' => rw [e] at h; exact h
  | ok r =>
    obtain ⟨x, η1⟩ := r
    rw [e] at h
    simp only [TV.R.bind] at h
    simp only [EvT]
    cases ht : truO η1 x with
    | none => rw [ht] at h; exact False.elim h
    | some b =>
      rw [ht] at h
      cases b with
      | true => exact h
      | false => exact h
theorem wipe_set_comm {σ : St} {i : Nat} : ∀ vs : List Nat, wipe (σ.set i none) vs = (wipe σ vs).set i none
  | [] => rfl
  | v :: vs => by
    show (wipe (σ.set i none) vs).set v none = ((wipe σ vs).set v none).set i none
    rw [wipe_set_comm vs]
    by_cases h : i = v
    · subst h; rfl
    · rw [List.set_comm _ _ h]
theorem wipe_idem (σ : St) : ∀ vs : List Nat, wipe (wipe σ vs) vs = wipe σ vs
  | [] => rfl
  | v :: vs => by
    show (wipe ((wipe σ vs).set v none) vs).set v none = (wipe σ vs).set v none
    rw [wipe_set_comm, List.set_set, wipe_idem σ vs]
theorem Ok.wipe {ws : List Nat} (o : TV.Ok ca [] R F H σ η tmp) : TV.Ok ca [] R F H (L2.wipe σ ws) (wipeE η ws) tmp := by
  induction ws with
  | nil => exact o
  | cons w ws ih => exact Ok.clear ih none (by simp)
theorem Ok.nopn {pn : List (Nat × V)} (o : TV.Ok ca pn R F H σ η tmp) : TV.Ok ca [] R F H σ η tmp := ⟨o.same, o.fr, o.own, fun x hx => by cases hx⟩
theorem Ok.repn {pn : List (Nat × V)} (o : TV.Ok ca [] R F H σ η tmp) (h : ∀ x ∈ pn, σ[x.1]? = some (some x.2)) : TV.Ok ca pn R F H σ η tmp := ⟨o.same, o.fr, o.own, h⟩
theorem set_get {α : Type} {l : List α} {v : Nat} {x y : α} (h : l[v]? = some y) : (l.set v x).set v y = l := by
  rw [List.set_set]; exact set_same h
theorem Ok.restore {η1 : Env} {F0 : Hp} (s : Same F0 F) : ∀ {ws : List Nat} {σ : St}, ws.Nodup → (∀ v ∈ ws, match η1[v]? with | some (some t) => t.fz = true ∧ ∃ u, σ[v]? = some (some u) ∧ View ca F0 t u | _ => True) → TV.Ok ca [] R F H (L2.wipe σ ws) η tmp → TV.Ok ca [] R F H σ (resE η η1 ws) tmp
  | [], σ, _, _, o => o
  | v :: vs, σ, hn, h, o => by
    have o : TV.Ok ca [] R F H (L2.wipe (σ.set v none) vs) η tmp := by rw [wipe_set_comm]; exact o
    have hv := h v (by simp)
    obtain ⟨hnv, hn⟩ := List.nodup_cons.mp hn
    have ih := Ok.restore s (ws := vs) (σ := σ.set v none) hn (fun w hw => by
      have hw' := h w (by simp [hw])
      split
      · rename_i t ht
        rw [ht] at hw'
        obtain ⟨f, u, e, q⟩ := hw'
        exact ⟨f, u, by rw [List.getElem?_set_ne (by rintro rfl; exact hnv hw)]; exact e, q⟩
      · trivial) o
    show TV.Ok ca [] R F H σ ((resE η η1 vs).set v ((η1[v]?).getD none)) tmp
    by_cases hlt : v < σ.length
    · have back : ∃ x, σ[v]? = some x := ⟨_, List.getElem?_eq_getElem hlt⟩
      obtain ⟨x, hx⟩ := back
      split at hv
      · rename_i t ht
        obtain ⟨f, u, e, q⟩ := hv
        rw [e] at hx
        cases hx
        rw [ht]
        simp only [Option.getD_some]
        have hl := ih.len
        rw [List.length_set] at hl
        have := Ok.setSlot (i := v) (Ok.push ih (View.mono s _ _ q) f) (by omega) (by simp)
        rwa [set_get e] at this
      · rename_i hno
        have hnone : (η1[v]?).getD none = none := by
          cases e : η1[v]? with
          | none => rfl
          | some y => cases y with
            | none => rfl
            | some t => exact absurd e (hno t)
        rw [hnone]
        have := Ok.clear (i := v) ih x (by simp)
        rwa [set_get hx] at this
    · have hl := ih.len
      rw [List.length_set] at hl
      rw [List.set_eq_of_length_le (by omega)] at ih
      rw [List.set_eq_of_length_le (by omega)]
      exact ih
/-- the item goes to the list that is made -/
theorem Ok.pushAcc {p : Addr} {acc : List T} {t : T} {v : V} {pn : List (Nat × V)} (o : TV.Ok ca pn R F H σ η ((v, t) :: (.ref p, .lst true acc) :: tmp)) :
    ∃ vs, H p = some (.lst vs) ∧ vs.length = acc.length ∧ TV.Ok ca pn R F (upd H p (.lst (vs ++ [v]))) σ η ((.ref p, .lst true (acc ++ [t])) :: tmp) := by
  obtain ⟨a1, a2, h1, h2, h3, h4⟩ := o.own
  simp only [OkT] at h2
  obtain ⟨b1, b2, rfl, wt, c1, c2, rfl, wl, hr⟩ := h2
  obtain ⟨a, vs, r, e, rfl, ha, wo⟩ := own_olist wl
  cases e
  have cnt : ∀ b, b ∈ a1 ++ b1 ++ r ++ c2 → b ≠ p := fun b hb e => by
    subst e
    have := h3 b
    have h1 := List.count_pos_iff.mpr hb
    simp only [List.count_append, List.cons_append, List.count_cons_self] at *
    omega
  have fr : ∀ {l : List Addr}, (∀ b ∈ l, b ∈ a1 ++ b1 ++ r ++ c2) → ∀ b ∈ l, ∀ o, H b = some o → upd H p (.lst (vs ++ [v])) b = some o := fun {l} hl b hb o e => by
    rw [upd_ne (cnt b (hl b hb))]; exact e
  have fp := h4 p (by simp)
  refine ⟨vs, ha, wo.length.symm, fun b y e => ?_, fun b y e => ⟨?_, (o.fr b y e).2⟩, ⟨a1, (p :: (r ++ b1)) ++ c2, h1.frame (Same.refl F) (fr fun b hb => by simp [hb]), ?_, fun b => ?_, fun b hb => h4 b ?_⟩, o.pins⟩
  · rw [upd_ne fun z => by rw [z, fp.1] at e; cases e]; exact o.same b y e
  · rw [upd_ne fun z => by rw [z, fp.2] at e; cases e]; exact (o.fr b y e).1
  · simp only [OkT]
    refine ⟨p :: (r ++ b1), c2, rfl, relay (r := r) (al := b1) (Owns.append (Owns.frame (Same.refl F) _ _ _ (fr fun b hb => by simp [hb]) wo) (Owns.one (Own.frame (Same.refl F) _ _ _ (fr fun b hb => by simp [hb]) wt))), hr.frame (Same.refl F) (fr fun b hb => by simp [hb])⟩
  · have := h3 b
    simp only [List.count_append, List.cons_append, List.count_cons] at *; omega
  · simp only [List.mem_append, List.mem_cons] at hb ⊢
    rcases hb with z | (z | z | z) | z <;> simp [z]
theorem cut_err {α : Type} {r : TV.R α} {x : α} (h : r.cut = .ok x) : r = .ok x := by cases r <;> simp_all [TV.R.cut]
/-- the turn of a list comprehension -/
def lcF (C : Ctx) (elt : CE) (tg : FT) (ifs : List CE) (ws : List Nat) : T → Env → TV.R (Option T × Env) := fun t η => (match bindF tg t η with
        | some η₁ => (evTs C ifs η₁).bind fun y => if y.1 then (evE C elt y.2).bind fun z => (match keepO z.2 z.1 with
            | some (u, η₂) => .ok (some u, wipeE η₂ ws)
            | none => .err) else .ok (none, wipeE y.2 ws)
        | none => .err).cut
def G0 (G : Par) : Par := { G with pn := [] }
def C0 (C : Ctx) : Ctx := { C with pin := [] }
def W0 : WX := fun _ _ _ _ => False
/-- what a comprehension's turns do, the item handed to Qi -/
theorem lc_turn {elt : CE} {ft : FT} {ifs : List CE} {ws : List Nat} {t : T} {x : V} {r : Option T × Env} {Q : V → Hp → Prop} {Qn : Hp → Prop} (hsl : ∀ i ∈ ft.slots, i ∈ ws) (o : TV.Ok G.ca [] R F H (L2.wipe σ ws) η tmp) (hv : View G.ca F t x) (hf : t.fz = true)
    (h : lcF C elt ft ifs ws t η = .ok r)
    (hy : ∀ F' H' v u, r.1 = some u → Same F F' → (∀ σ2, L2.wipe σ2 ws = L2.wipe σ ws → ∀ η2, wipeE η2 ws = r.2 → TV.Ok G.ca [] R F' H' σ2 η2 ((v, u) :: tmp) → Q v H')) (hn : ∀ F' H', r.1 = none → Same F F' → TV.Ok G.ca [] R F' H' (L2.wipe σ ws) r.2 tmp → Qn H') :
    IG (G0 G) (C0 C) ft x (L2.wipe σ ws) H fun σ2 H2 => L2.wipe σ2 ws = L2.wipe σ ws ∧ IBs (G0 G) W0 (evTs C ifs) σ2 H2 fun b H3 => if b = true then IE (G0 G) W0 (pu elt) (evE C elt) σ2 H3 Q else Qn H3 := by
  unfold lcF at h
  have h := cut_err h
  split at h
  · rename_i η1 hb
    refine ⟨R, F, η, t, tmp, o, hv, hf, by simp [C0], η1, hb, fun σ2 on o2 => ?_⟩
    have hw : L2.wipe σ2 ws = L2.wipe σ ws := by rw [on ws hsl, wipe_idem]
    refine ⟨hw, R, F, η1, tmp, o2, ?_⟩
    cases e : evTs C ifs η1 with
    | err => rw [e] at h; cases h
    | exc c p η' => rw [e] at h; cases h
    | ok y =>
      obtain ⟨b, η2⟩ := y
      rw [e] at h
      simp only [TV.R.bind] at h
      intro F' H' s1 o3
      cases b with
      | false =>
        rw [if_neg Bool.false_ne_true] at h ⊢
        cases h
        refine hn F' H' rfl s1 ?_
        rw [← hw]
        exact Ok.wipe o3
      | true =>
        rw [if_pos rfl] at h ⊢
        refine ⟨R, F', η2, tmp, o3, ?_⟩
        cases e2 : evE C elt η2 with
        | err => rw [e2] at h; cases h
        | exc c p η' => rw [e2] at h; cases h
        | ok z =>
          obtain ⟨z, η3⟩ := z
          rw [e2] at h
          dsimp only at h
          split at h
          · rename_i u η4 hk
            cases h
            cases z with
            | v u0 =>
              intro F2 H2 v s2 _ o4
              obtain ⟨F3, s3, o5, _⟩ := keep_ok (G := G0 G) (x := .v u0) (v := v) (tmp := tmp) o4 (by simp [tms]) (fun _ _ e => by cases e) hk
              exact hy F3 H2 v u rfl ((s1.trans s2).trans s3) σ2 hw η4 rfl o5
            | pl i p =>
              intro F2 H2 v s2 _ o4 hp
              obtain ⟨F3, s3, o5, _⟩ := keep_ok (G := G0 G) (x := .pl i p) (v := v) (tmp := tmp) o4 (by simp [tms]) (fun i p e _ => by cases e; exact hp) hk
              exact hy F3 H2 v u rfl ((s1.trans s2).trans s3) σ2 hw η4 rfl o5
          · cases h
  · cases h
theorem lc_ie {elt : CE} {ft : FT} {it : IT} {ifs : List CE} {ws : List Nat} {Q : VK} (hsl : ∀ i ∈ ft.slots, i ∈ ws) (hnd : ws.Nodup) (h : IE G W false (evE C (.lc elt ft it ifs ws)) σ H Q) :
    tLc (II G W (evIt C it)) (IG (G0 G) (C0 C) ft) (IBs (G0 G) W0 (evTs C ifs)) (IE (G0 G) W0 (pu elt) (evE C elt)) ws σ H Q := by
  obtain ⟨R, F, η, tmp, o, h⟩ := h
  simp only [evE] at h
  refine ⟨R, F, η, tmp, o, ?_⟩
  cases e : evIt C it η with
  | err => rw [e] at h; exact h
  | exc c p η' => rw [e] at h; exact h
  | ok r =>
    obtain ⟨ts, η1⟩ := r
    rw [e] at h
    simp only [TV.R.bind] at h
    intro F0 H1 J s1 o1 w p hp
    split at h
    · rename_i hpl
      let cont : TV.R (List T × Env) → TV.R (Opd × Env) := fun r => r.bind fun y => .ok (.v (.lst true y.1), resE y.2 η1 ws)
      have h : EvP G W false R F0 H1 σ tmp (cont (lcL (lcF C elt ft ifs ws) ts (wipeE η1 ws) [])) Q := EvP.shift h s1 H1
      have start : TV.Ok G.ca [] R F0 (upd H1 p (.lst [])) (L2.wipe σ ws) (wipeE η1 ws) ((.ref p, .lst true []) :: tmp) := Ok.newLst (Ok.wipe (Ok.nopn o1)) hp (by simp [Views]) rfl
      have keep : ∀ v ∈ ws, match η1[v]? with | some (some t) => t.fz = true ∧ ∃ u, σ[v]? = some (some u) ∧ View G.ca F0 t u | _ => True := fun v hv => by
        split
        · rename_i t ht
          have q := List.all_eq_true.mp hpl v hv
          rw [Bool.and_eq_true] at q
          have q1 := q.1
          unfold plainSl at q1
          rw [ht] at q1
          obtain ⟨u, as, hs, wo⟩ := Ok.slot o1 ht
          have fz := wo.fz_of (by simpa using q1)
          exact ⟨fz, u, hs, (Own.of_fz fz wo).2⟩
        · trivial
      refine ⟨fun i m H => m = ts.length - i ∧ i ≤ ts.length ∧ ∃ F η acc, Same F0 F ∧ TV.Ok G.ca [] R F H (L2.wipe σ ws) η ((.ref p, .lst true acc) :: tmp) ∧ EvP G W false R F H σ tmp (cont (lcL (lcF C elt ft ifs ws) (ts.drop i) η acc)) Q,
        ⟨ts.length, by simp, Nat.zero_le _, F0, _, [], Same.refl F0, start, EvP.shift h (Same.refl F0) _⟩, fun i m H ⟨hm, hi, F, η, acc, s2, o2, h2⟩ => ?_⟩
      by_cases hlt : i < ts.length
      · have ht : ts[i]? = some ts[i] := List.getElem?_eq_getElem hlt
        rw [List.drop_eq_getElem_cons hlt] at h2
        simp only [lcL] at h2
        refine .inr ⟨(w.go i H _ ht (s2.trans o2.same)).1, fun H' => ∃ F η acc, Same F0 F ∧ TV.Ok G.ca [] R F H' (L2.wipe σ ws) η ((.ref p, .lst true acc) :: tmp) ∧ EvP G W false R F H' σ tmp (cont (lcL (lcF C elt ft ifs ws) (ts.drop (i + 1)) η acc)) Q, fun H' q => ⟨ts.length - (i + 1), by omega, rfl, hlt, q⟩, fun x H' hyl => ?_⟩
        obtain ⟨F2, s3, o3, hv, hf⟩ := walk_step w s2 o2 ht hyl
        have h3 := EvP.shift h2 s3 H'
        cases e3 : lcF C elt ft ifs ws ts[i] η with
        | err => rw [e3] at h3; exact False.elim h3
        | exc c pp η' =>
          exfalso
          unfold lcF at e3
          generalize hg : (match bindF ft ts[i] η with
            | some η₁ => (evTs C ifs η₁).bind fun y => if y.1 then (evE C elt y.2).bind fun z => (match keepO z.2 z.1 with
                | some (u, η₂) => .ok (some u, wipeE η₂ ws)
                | none => .err) else .ok (none, wipeE y.2 ws)
            | none => .err : TV.R (Option T × Env)) = g at e3
          cases g <;> simp [TV.R.cut] at e3
        | ok r =>
          rw [e3] at h3
          simp only [TV.R.bind] at h3
          refine lc_turn (r := r) hsl o3 hv hf e3 (fun F' H2 v u hu s4 σ2 hw η2 hη o4 => ?_) fun F' H2 hno s4 o4 => ?_
          · rw [hu] at h3
            dsimp only at h3
            split at h3
            · rename_i hlen
              obtain ⟨vs, ha, hlv, o5⟩ := Ok.pushAcc o4
              have o6 : TV.Ok G.ca [] R F' _ (L2.wipe σ2 ws) (wipeE η2 ws) _ := Ok.wipe o5
              rw [hw, hη] at o6
              exact ⟨vs, ha, by rw [hlv]; exact sizeL_lt hlen, F', r.2, acc ++ [u], (s2.trans s3).trans s4, o6, EvP.shift h3 s4 _⟩
            · exact False.elim h3
          · rw [hno] at h3
            exact ⟨F', r.2, acc, (s2.trans s3).trans s4, o4, EvP.shift h3 s4 _⟩
      · have e2 : i = ts.length := by omega
        subst e2
        rw [List.drop_length] at h2
        simp only [lcL, cont, TV.R.bind] at h2
        exact .inl ⟨w.stop H (s2.trans o2.same), h2 F H _ (Same.refl F) (fun z => by cases z) (Ok.repn (Ok.restore s2 hnd keep o2) o1.pins)⟩
    · exact False.elim h
/-- [elt for tg in iter if ..] -/
theorem pe_lcI {elt iter : Expr} {ifs : List Expr} {scope : Scope} {own : List (Str × Nat)} {pos : Pos} {it : IT} {ft : FT} {celt : CE} {cifs : List CE} (hc : X.calm = true) (hN : X.N.Nodup) (hi : PI X tg iter (II G W (evIt C it))) (ok : BlkOk X.N X.env.scope scope own)
    (hg : ∀ (s : Shared) (H : Hp) (A : Addr) (cl : List (Str × Addr)) (fp : List Addr), PG (X.blk s H scope (compEnvC scope cl A X.env) fp) tg (IG (G0 G) (C0 C) ft))
    (ht : ∀ (s : Shared) (H : Hp) (A : Addr) (cl : List (Str × Addr)) (fp : List Addr), PTs (X.blk s H scope (compEnvC scope cl A X.env) fp) ifs (IBs (G0 G) W0 (evTs C cifs)))
    (he : ∀ (s : Shared) (H : Hp) (A : Addr) (cl : List (Str × Addr)) (fp : List Addr), PE (X.blk s H scope (compEnvC scope cl A X.env) fp) elt (IE (G0 G) W0 (pu celt) (evE C celt))) (hs : ∀ x, foldedSetIterable iter X.env x = pure x)
    (hsl : ∀ i ∈ ft.slots, i ∈ own.map (·.2)) (hnd : (own.map (·.2)).Nodup) :
    PE X (.ListComp elt [⟨tg, iter, ifs, 0⟩] scope pos) (IE G W false (evE C (.lc celt ft it cifs (own.map (·.2))))) :=
  pe_by (pe_lc hc hN hi ok hg ht he hs) fun σ H Q h => lc_ie hsl hnd h
/-- name = [..], the name a local -/
theorem ps_setLcI {i : Nat} {y : Str} {py : Pos} {elt iter : Expr} {ifs : List Expr} {scope : Scope} {own : List (Str × Nat)} {pos spos : Pos} {it : IT} {ft : FT} {celt : CE} {cifs : List CE} {fr : Bool} (hpn : ∀ j ∈ G.pn.map (·.1), C.pin.contains j = true) (hy : X.N[i]? = some y) (hyl : X.env.scope.names.lookup y = some .local)
    (hsw : swapsWith (.ListComp elt [⟨tg, iter, ifs, 0⟩] scope pos) (some (.Name y py)) spos.line X.env = pure true) (hc : X.calm = true) (hN : X.N.Nodup) (hi : PI X tg iter (II G W (evIt C it))) (ok : BlkOk X.N X.env.scope scope own)
    (hg : ∀ (s : Shared) (H : Hp) (A : Addr) (cl : List (Str × Addr)) (fp : List Addr), PG (X.blk s H scope (compEnvC scope cl A X.env) fp) tg (IG (G0 G) (C0 C) ft))
    (ht : ∀ (s : Shared) (H : Hp) (A : Addr) (cl : List (Str × Addr)) (fp : List Addr), PTs (X.blk s H scope (compEnvC scope cl A X.env) fp) ifs (IBs (G0 G) W0 (evTs C cifs)))
    (he : ∀ (s : Shared) (H : Hp) (A : Addr) (cl : List (Str × Addr)) (fp : List Addr), PE (X.blk s H scope (compEnvC scope cl A X.env) fp) elt (IE (G0 G) W0 (pu celt) (evE C celt))) (hs : ∀ x, foldedSetIterable iter X.env x = pure x)
    (hsl : ∀ i ∈ ft.slots, i ∈ own.map (·.2)) (hnd : (own.map (·.2)).Nodup) :
    PS X (.Assign [.Name y py] (.ListComp elt [⟨tg, iter, ifs, 0⟩] scope pos) spos) (IS G W (evS C (.asg fr (.s i) (.lc celt ft it cifs (own.map (·.2)))))) :=
  ps_by (ps_setLc hc hN hy hyl hsw hi ok hg ht he hs) fun D σ H h => lc_ie hsl hnd (set_ie hpn h)
end
end TV
/-! calls of defs -/
namespace TV
open PySem L2
def pickB {α : Type} : List Bool → List α → List α
  | true :: bs, a :: as => a :: pickB bs as
  | false :: bs, _ :: as => pickB bs as
  | _, _ => []
def OwnsO (ca : Nat → Addr) (F H : Hp) : Env → List V → List Addr → Prop
  | [], [], as => as = []
  | some t :: r, v :: vs, as => ∃ a1 a2, as = a1 ++ a2 ∧ Own ca F H t v a1 ∧ OwnsO ca F H r vs a2
  | _, _, _ => False
/-- what a call keeps -/
def KeptBy (F H F' H' : Hp) (as : List Addr) : Prop := ∀ a o, H a = some o → a ∉ as → F a = none → H' a = some o ∧ F' a = none
/-- a def's promise: it answers as m says -/
def spF (G : Par) (io : List Bool) (m : FS) (n : Nat) : Sp := fun vs H Q E => vs.length = n ∧ ∃ F ts as, Same F H ∧ G.Owns F H ts vs as ∧ (∀ a, as.count a ≤ 1) ∧ (∀ a ∈ as, F a = none) ∧ (∀ (k : Nat) t, ts[k]? = some t → io.getD k false = false → t.fz = true) ∧
  match m ts with
  | .ok (t, outs) => ∀ F' H' v ar ao, Same F F' → Same F' H' → KeptBy F H F' H' as → G.Own F' H' t v ar → OwnsO G.ca F' H' outs (pickB io vs) ao → (∀ a, (ar ++ ao).count a ≤ 1) → (∀ a ∈ ar ++ ao, F' a = none ∧ (H a = none ∨ a ∈ as)) → Q v H'
  | .exc c p outs => ∀ F' H' d ao, Same F F' → Same F' H' → KeptBy F H F' H' as → OwnsO G.ca F' H' outs (pickB io vs) ao → (∀ a, ao.count a ≤ 1) → (∀ a ∈ ao, F' a = none ∧ (H a = none ∨ a ∈ as)) → Exh G F' H' c p d → E (.ref (G.ca c)) d H'
  | .err => False
section
variable {ca : Nat → Addr} {pn : List (Nat × V)} {X : Cx} {G : Par} {W : WX} {C : Ctx} {R F F' H H' : Hp} {σ : St} {η : Env} {D : Ends} {tmp : List (V × T)} {k : Nat}
/-! ### the caller's state over a call -/
theorem Ok.call {l : List (V × T)} (o : TV.Ok ca pn R F H σ η (l ++ tmp)) : ∃ as, OkT ca F H l as ∧ (∀ a, as.count a ≤ 1) ∧ (∀ a ∈ as, F a = none) ∧
    ∀ F' H' l' al', Same F F' → Same F' H' → KeptBy F H F' H' as → OkT ca F' H' l' al' → (∀ a, al'.count a ≤ 1) → (∀ a ∈ al', F' a = none ∧ (H a = none ∨ a ∈ as)) → TV.Ok ca pn R F' H' σ η (l' ++ tmp) := by
  obtain ⟨a1, a2, h1, h2, h3, h4⟩ := o.own
  obtain ⟨al, ar, rfl, hl, hr⟩ := OkT.app.mp h2
  refine ⟨al, hl, fun a => ?_, fun a ha => (h4 a (by simp [ha])).1, fun F' H' l' al' sF sH kp ht hc hm => ?_⟩
  · have := h3 a
    simp only [List.count_append] at this; omega
  · have far : ∀ a ∈ a1 ++ ar, a ∉ al ∧ F a = none ∧ R a = none ∧ ∃ o, H a = some o := fun a ha => by
      refine ⟨fun m => ?_, ?_⟩
      · have := h3 a
        have h5 := List.count_pos_iff.mpr ha
        have h6 := List.count_pos_iff.mpr m
        simp only [List.count_append] at *; omega
      · have q := h4 a (by simp only [List.mem_append] at ha ⊢; rcases ha with z | z <;> simp [z])
        refine ⟨q.1, q.2, ?_⟩
        rcases List.mem_append.mp ha with z | z
        · exact h1.there a z
        · exact hr.there a z
    have keep : ∀ l2 : List Addr, (∀ a ∈ l2, a ∈ a1 ++ ar) → ∀ a ∈ l2, ∀ o, H a = some o → H' a = some o := fun l2 hl2 a ha o e => (kp a o e (far a (hl2 a ha)).1 (far a (hl2 a ha)).2.1).1
    have frr : ∀ a y, R a = some y → a ∉ al := fun a y e m => by
      have := (h4 a (by simp [m])).2
      rw [e] at this; cases this
    refine ⟨sH, fun a y e => ?_, ⟨a1, al' ++ ar, h1.frame sF (keep a1 fun a ha => by simp [ha]), OkT.app.mpr ⟨al', ar, rfl, ht, hr.frame sF (keep ar fun a ha => by simp [ha])⟩, fun a => ?_, fun a ha => ?_⟩, o.pins⟩
    · exact kp a y (o.fr a y e).1 (frr a y e) (o.fr a y e).2
    · have q3 := h3 a
      have q4 := hc a
      simp only [List.count_append] at *
      by_cases ma : a ∈ al'
      · have : a ∉ a1 ++ ar := fun m => by
          obtain ⟨f1, _, _, y, f4⟩ := far a m
          rcases (hm a ma).2 with z | z
          · rw [f4] at z; cases z
          · exact f1 z
        have h5 : a1.count a = 0 := List.count_eq_zero.mpr fun z => this (by simp [z])
        have h6 : ar.count a = 0 := List.count_eq_zero.mpr fun z => this (by simp [z])
        omega
      · have : al'.count a = 0 := List.count_eq_zero.mpr ma
        omega
    · by_cases ma : a ∈ al'
      · refine ⟨(hm a ma).1, ?_⟩
        cases e : R a with
        | none => rfl
        | some y =>
          rcases (hm a ma).2 with z | z
          · rw [(o.fr a y e).1] at z; cases z
          · exact absurd z (frr a y e)
      · have : a ∈ a1 ++ ar := by
          simp only [List.mem_append] at ha ⊢
          rcases ha with z | z | z
          · exact .inl z
          · exact absurd z ma
          · exact .inr z
        obtain ⟨f1, f2, f3, y, f4⟩ := far a this
        exact ⟨(kp a y f4 f1 f2).2, f3⟩
theorem tmz_owns : ∀ {ts : List T} {vs : List V} {al : List Addr}, OkT ca F H (tmz ts vs) al → ts.length = vs.length → ∃ as, Owns ca F H ts vs as ∧ ∀ a, as.count a = al.count a
  | [], [], al, h, _ => ⟨[], by simp [Owns], fun a => by rw [show al = [] from h]⟩
  | t :: ts, v :: vs, al, h, hl => by
    simp only [tmz] at h
    obtain ⟨a1, a2, rfl, h1, h2⟩ := OkT.app.mp h
    simp only [OkT] at h2
    obtain ⟨b1, b2, rfl, wt, rfl⟩ := h2
    obtain ⟨as, h3, h4⟩ := tmz_owns h1 (by simpa using hl)
    refine ⟨b1 ++ as, by simp only [Owns]; exact ⟨v, vs, b1, as, rfl, rfl, wt, h3⟩, fun a => ?_⟩
    have := h4 a
    simp only [List.append_nil, List.count_append] at *; omega
  | [], _ :: _, _, _, h => by simp at h
  | _ :: _, [], _, _, h => by simp at h
def outT : List V → Env → List (V × T)
  | v :: vs, some t :: os => (v, t) :: outT vs os
  | _, _ => []
theorem outT_ok : ∀ {outs : Env} {vs : List V} {ao : List Addr}, OwnsO ca F H outs vs ao → OkT ca F H (outT vs outs) ao
  | [], [], ao, h => h
  | some t :: r, v :: vs, ao, h => by
    simp only [OwnsO] at h
    obtain ⟨a1, a2, rfl, h1, h2⟩ := h
    simp only [outT, OkT]
    exact ⟨a1, a2, rfl, h1, outT_ok h2⟩
  | none :: _, _, _, h => by simp [OwnsO] at h
  | [], _ :: _, _, h => by simp [OwnsO] at h
  | some _ :: _, [], _, h => by simp [OwnsO] at h
/-- the written arguments go back -/
theorem back_ok : ∀ {bs : List Bool} {vs : List V} {is : List Nat} {outs : Env} {η η' : Env}, IoV σ bs vs is → backA η is outs = some η' → G.Ok R F H σ η (outT (pickB bs vs) outs ++ tmp) → G.Ok R F H σ η' tmp
  | bs, [], is, outs, η, η', h, hb, o => by
    have e : is = [] := by cases bs with
      | nil => simpa only [IoV] using h
      | cons b bs => simpa only [IoV] using h
    subst e
    have e2 : pickB bs ([] : List V) = [] := by cases bs with
      | nil => rfl
      | cons b bs => cases b <;> rfl
    rw [e2] at o
    cases outs with
    | nil => simp only [backA] at hb; cases hb; simpa [outT] using o
    | cons x outs => simp [backA] at hb
  | [], v :: vs, is, outs, η, η', h, hb, o => by
    simp only [IoV, List.headD_nil, Bool.false_eq_true, if_false, List.tail_nil] at h
    exact back_ok (bs := []) h hb (by cases vs <;> exact o)
  | true :: bs, v :: vs, is, outs, η, η', h, hb, o => by
    simp only [IoV, List.headD_cons, if_true, List.tail_cons] at h
    obtain ⟨i, r, rfl, hs, h⟩ := h
    simp only [pickB] at o
    cases outs with
    | nil => simp [backA] at hb
    | cons x outs =>
      cases x with
      | none => simp [backA] at hb
      | some t =>
        simp only [backA] at hb
        simp only [outT] at o
        exact back_ok h hb (Ok.fill o hs)
  | false :: bs, v :: vs, is, outs, η, η', h, hb, o => by
    simp only [IoV, List.headD_cons, Bool.false_eq_true, if_false, List.tail_cons] at h
    exact back_ok h hb o
/-- the caller -/
theorem call_ie {io : List Bool} {m : FS} {n : Nat} {es : List CE} {f : Nat} {Q : VK} (hio : C.io f = io) (hm : C.fs f = m) (hn : es.length = n) (h : IE G W false (evE C (.call f es)) σ H Q) : tCallS (spF G io m n) (WE W) (IA G W (clos C es)) σ H Q := by
  obtain ⟨R, F, η, tmp, o, h⟩ := h
  simp only [evE] at h
  have hev : evs C es = evL (clos C es) := funext (evs_evL C es)
  rw [hev] at h
  refine ⟨R, F, η, tmp, o, ?_⟩
  cases e : evL (clos C es) η with
  | err => rw [e] at h; exact h
  | exc c p η' => rw [e] at h; exact h
  | ok r =>
    obtain ⟨os, η1⟩ := r
    rw [e] at h
    simp only [TV.R.bind] at h
    intro F1 H1 vs s1 _ o1 pl
    simp only [callF, hio, hm] at h
    cases ha : args os io η1 with
    | none => rw [ha] at h; exact False.elim h
    | some r2 =>
      obtain ⟨ts, η2, is⟩ := r2
      rw [ha] at h
      dsimp only at h
      obtain ⟨F2, s2, o2, hio2, hl, hfz⟩ := args_ok ha o1 pl.w
      obtain ⟨al, hal, hc, hF, back⟩ := Ok.call o2
      obtain ⟨as, wo, hcn⟩ := tmz_owns hal hl
      have mem : ∀ a, a ∈ as ↔ a ∈ al := fun a => ⟨fun h => mem_count (hcn a) h, fun h => mem_count (hcn a).symm h⟩
      refine ⟨by rw [pl.len, evL_len e]; simpa [clos] using hn, F2, ts, as, o2.same, wo, fun a => by rw [hcn]; exact hc a, fun a ha => hF a ((mem a).mp ha), hfz, ?_⟩
      cases hr : m ts with
      | err => rw [hr] at h; exact h
      | ok r3 =>
        obtain ⟨t, outs⟩ := r3
        rw [hr] at h
        dsimp only at h
        intro F3 H3 v ar ao s3 sH kp wt wo3 hc3 hm3
        cases hb : backA η2 is outs with
        | none => rw [hb] at h; exact False.elim h
        | some η3 =>
          rw [hb] at h
          have o3 : G.Ok R F3 H3 σ η2 ((outT (pickB io vs) outs ++ [(v, t)]) ++ tmp) := back F3 H3 _ (ao ++ ar) s3 sH (fun a y e hn hf => kp a y e (fun z => hn ((mem a).mp z)) hf) (OkT.app.mpr ⟨ao, ar, rfl, outT_ok wo3, by simp only [OkT]; exact ⟨ar, [], by simp, wt, rfl⟩⟩) (fun a => by
            have := hc3 a
            simp only [List.count_append] at *; omega) fun a ha => by
            obtain ⟨q1, q2⟩ := hm3 a (by simp only [List.mem_append] at ha ⊢; exact ha.symm)
            exact ⟨q1, q2.imp id (mem a).mp⟩
          rw [List.append_assoc] at o3
          exact h F3 H3 v ((s1.trans s2).trans s3) (fun z => by cases z) (back_ok hio2 hb o3)
      | exc c p outs =>
        rw [hr] at h
        dsimp only at h
        intro F3 H3 d ao s3 sH kp wo3 hc3 hm3 ex
        cases hb : backA η2 is outs with
        | none => rw [hb] at h; exact False.elim h
        | some η3 =>
          rw [hb] at h
          have o3 : G.Ok R F3 H3 σ η2 (outT (pickB io vs) outs ++ tmp) := back F3 H3 _ ao s3 sH (fun a y e hn hf => kp a y e (fun z => hn ((mem a).mp z)) hf) (outT_ok wo3) hc3 fun a ha => by
            obtain ⟨q1, q2⟩ := hm3 a ha
            exact ⟨q1, q2.imp id (mem a).mp⟩
          exact h F3 H3 d ((s1.trans s2).trans s3) (back_ok hio2 hb o3) ex
theorem pe_callI {CX : CXT} {f : Addr} {fd : FuncData} {ps : List Str} {io : List Bool} {m : FS} {x : Str} {p pos : Pos} {e : Expr} {es : List Expr} {ces : List CE} {j : Nat} (F : FnOk X.prog X.w X.K X.mg X.base CX k f fd ps (spF G io m ps.length)) (hr : Room k X.A) (hg : Gl X x) (hm : X.mg x = some (.ref f)) (hk : PySem.W.keepIn X.K (.ref f) = true) (hb : Binds X.K fd ps []) (hx : ∀ σ, PassesAt CX X σ (WE W σ))
    (hio : C.io j = io) (hfs : C.fs j = m) (hn : ces.length = ps.length) (ha : PA X (e :: es) (IA G W (clos C ces))) (hdb : (x == ("__debug__" : Str)) = false) (he : starEach (e :: es) X.env = (false, eval e X.env) :: starEach es X.env) (hpl : (backTo pos (starEach es X.env)).any (·.1) = false) :
    PE X (.Call (.Name x p) (e :: es) [] pos) (IE G W false (evE C (.call j ces))) :=
  pe_by (pe_callS F hr hg hm hk hb hx ha hdb he hpl) fun σ H Q h => call_ie hio hfs hn h
/-! ### the callee -/
theorem oks_of : ∀ {ts : List T} {vs : List V} {as : List Addr} (n : Nat), Owns ca F H ts vs as → OkS ca F H (vs.map some ++ List.replicate n none) (ts.map some ++ List.replicate n none) as
  | [], vs, as, n, h => by
    simp only [Owns] at h
    obtain ⟨rfl, rfl⟩ := h
    simp only [List.map_nil, List.nil_append]
    induction n with
    | zero => rfl
    | succ n ih =>
      simp only [List.replicate_succ, OkS]
      exact ⟨[], [], rfl, rfl, ih⟩
  | t :: ts, vs, as, n, h => by
    simp only [Owns] at h
    obtain ⟨v, r, a1, a2, rfl, rfl, h1, h2⟩ := h
    simp only [List.map_cons, List.cons_append, OkS]
    exact ⟨a1, a2, rfl, ⟨v, rfl, h1⟩, oks_of n h2⟩
theorem outs_ok : ∀ {io : List Bool} {η : Env} {σ : St} {vs : List V} {as : List Addr} {outs : Env}, OkS ca F H σ η as → outsOf io η = some outs → (∀ (i : Nat) v, io[i]? = some true → vs[i]? = some v → σ[i]? = some (some v)) → io.length ≤ vs.length →
    ∃ ao, OwnsO ca F H outs (pickB io vs) ao ∧ ∀ a, ao.count a ≤ as.count a
  | [], η, σ, vs, as, outs, _, h, _, _ => by
    simp only [outsOf] at h
    cases h
    exact ⟨[], by simp [pickB, OwnsO], fun a => by simp⟩
  | true :: bs, η, σ, [], as, outs, _, _, _, hl => by simp at hl
  | false :: bs, η, σ, [], as, outs, _, _, _, hl => by simp at hl
  | true :: bs, [], σ, v :: vs, as, outs, _, h, _, _ => by simp [outsOf] at h
  | true :: bs, none :: η, σ, v :: vs, as, outs, _, h, _, _ => by simp [outsOf] at h
  | true :: bs, some x :: η, [], v :: vs, as, outs, o, _, _, _ => by simp [OkS] at o
  | true :: bs, some x :: η, s :: σ, v :: vs, as, outs, o, h, hp, hl => by
    simp only [outsOf] at h
    split at h
    · rename_i r hr
      cases h
      simp only [OkS] at o
      obtain ⟨a1, a2, rfl, ⟨u, rfl, w⟩, o⟩ := o
      have e : u = v := by
        have := hp 0 v rfl rfl
        simpa using this
      subst e
      obtain ⟨ao, h1, h2⟩ := outs_ok (vs := vs) o hr (fun i w h1 h2 => by simpa using hp (i + 1) w (by simpa using h1) (by simpa using h2)) (by simpa using hl)
      refine ⟨a1 ++ ao, by simp only [pickB, OwnsO]; exact ⟨a1, ao, rfl, w, h1⟩, fun a => ?_⟩
      have := h2 a
      simp only [List.count_append]; omega
    · cases h
  | false :: bs, [], σ, v :: vs, as, outs, _, h, _, _ => by simp [outsOf] at h
  | false :: bs, x :: η, [], v :: vs, as, outs, o, _, _, _ => by simp [OkS] at o
  | false :: bs, x :: η, s :: σ, v :: vs, as, outs, o, h, hp, hl => by
    simp only [outsOf] at h
    simp only [OkS] at o
    obtain ⟨a1, a2, rfl, _, o⟩ := o
    obtain ⟨ao, h1, h2⟩ := outs_ok (vs := vs) o h (fun i w h1 h2 => by simpa using hp (i + 1) w (by simpa using h1) (by simpa using h2)) (by simpa using hl)
    exact ⟨ao, by simpa only [pickB] using h1, fun a => by have := h2 a; simp only [List.count_append]; omega⟩
def ioPn : List Bool → List V → Nat → List (Nat × V)
  | true :: bs, v :: vs, i => (i, v) :: ioPn bs vs (i + 1)
  | false :: bs, _ :: vs, i => ioPn bs vs (i + 1)
  | _, _, _ => []
def ioPin : List Bool → Nat → List Nat
  | true :: bs, i => i :: ioPin bs (i + 1)
  | false :: bs, i => ioPin bs (i + 1)
  | [], _ => []
theorem ioPn_mem : ∀ {bs : List Bool} {vs : List V} {j i : Nat} {v : V}, (i, v) ∈ ioPn bs vs j ↔ ∃ k, i = j + k ∧ bs[k]? = some true ∧ vs[k]? = some v
  | [], vs, j, i, v => by simp [ioPn]
  | true :: bs, [], j, i, v => by simp [ioPn]
  | false :: bs, [], j, i, v => by simp [ioPn]
  | true :: bs, u :: vs, j, i, v => by
    simp only [ioPn, List.mem_cons, ioPn_mem, Prod.mk.injEq]
    constructor
    · rintro (⟨rfl, rfl⟩ | ⟨k, rfl, h1, h2⟩)
      · exact ⟨0, rfl, rfl, rfl⟩
      · exact ⟨k + 1, by omega, by simpa using h1, by simpa using h2⟩
    · rintro ⟨k, rfl, h1, h2⟩
      cases k with
      | zero => exact .inl ⟨rfl, by simpa using h2.symm⟩
      | succ k => exact .inr ⟨k, by omega, by simpa using h1, by simpa using h2⟩
  | false :: bs, u :: vs, j, i, v => by
    simp only [ioPn, ioPn_mem]
    constructor
    · rintro ⟨k, rfl, h1, h2⟩
      exact ⟨k + 1, by omega, by simpa using h1, by simpa using h2⟩
    · rintro ⟨k, rfl, h1, h2⟩
      cases k with
      | zero => simp at h1
      | succ k => exact ⟨k, by omega, by simpa using h1, by simpa using h2⟩
theorem ioPin_mem : ∀ {bs : List Bool} {j i : Nat}, i ∈ ioPin bs j ↔ ∃ k, i = j + k ∧ bs[k]? = some true
  | [], j, i => by simp [ioPin]
  | true :: bs, j, i => by
    simp only [ioPin, List.mem_cons, ioPin_mem]
    constructor
    · rintro (rfl | ⟨k, rfl, h1⟩)
      · exact ⟨0, rfl, rfl⟩
      · exact ⟨k + 1, by omega, by simpa using h1⟩
    · rintro ⟨k, rfl, h1⟩
      cases k with
      | zero => exact .inl rfl
      | succ k => exact .inr ⟨k, by omega, by simpa using h1⟩
  | false :: bs, j, i => by
    simp only [ioPin, ioPin_mem]
    constructor
    · rintro ⟨k, rfl, h1⟩
      exact ⟨k + 1, by omega, by simpa using h1⟩
    · rintro ⟨k, rfl, h1⟩
      cases k with
      | zero => simp at h1
      | succ k => exact ⟨k, by omega, by simpa using h1⟩
/-- a body read as f does what the def's promise says -/
theorem callee {io : List Bool} {n N : Nat} {b : List CS} {vs : List V} {Q : VK} {E : XK} (hlen : io.length ≤ n) (hN : n ≤ N) (h : spF G io (evF C io N b) n vs H Q E) :
    IS { G with pn := ioPn io vs 0 } (fun c d _ H => E c d H) (evB C b) { nx := fun _ H' => Q .non H', rt := Q } (vs.map some ++ List.replicate (N - vs.length) none) H := by
  obtain ⟨hn, F, ts, as, sF, wo, hc, hF, hfz, hm⟩ := h
  have hlt := wo.length
  let R : Hp := fun a => if a ∈ as then none else if (F a).isSome then none else H a
  have hR : ∀ a o, R a = some o → a ∉ as ∧ F a = none ∧ H a = some o := fun a o e => by
    simp only [R] at e
    split at e
    · cases e
    · rename_i h1
      split at e
      · cases e
      · rename_i h2
        exact ⟨h1, by simpa using h2, e⟩
  have start : TV.Ok G.ca (ioPn io vs 0) R F H (vs.map some ++ List.replicate (N - vs.length) none) (ts.map some ++ List.replicate (N - ts.length) none) [] := by
    refine ⟨sF, fun a o e => ⟨(hR a o e).2.2, (hR a o e).2.1⟩, ⟨as, [], by rw [hlt]; exact oks_of _ wo, rfl, fun a => by simpa using hc a, fun a ha => ?_⟩, fun x hx => ?_⟩
    · rw [List.append_nil] at ha
      exact ⟨hF a ha, by simp only [R, if_pos ha]⟩
    · obtain ⟨k, e, h1, h2⟩ := ioPn_mem.mp (show (x.1, x.2) ∈ ioPn io vs 0 from hx)
      have hk : k < vs.length := (List.getElem?_eq_some_iff.mp h2).1
      rw [e, Nat.zero_add, List.getElem?_append_left (by simpa using hk), List.getElem?_map, h2]
      rfl
  refine ⟨R, F, _, start, ?_⟩
  -- how a body's end meets the promise
  have fin : ∀ {η' : Env} {outs : Env} {F' H' : Hp} {σ' : St} {l : List (V × T)}, Same F F' → TV.Ok G.ca (ioPn io vs 0) R F' H' σ' η' l → outsOf io η' = some outs →
      ∃ al ao, OkT G.ca F' H' l al ∧ OwnsO G.ca F' H' outs (pickB io vs) ao ∧ (∀ a, (al ++ ao).count a ≤ 1) ∧ (∀ a ∈ al ++ ao, F' a = none ∧ (H a = none ∨ a ∈ as)) ∧ KeptBy F H F' H' as := by
    intro η' outs F' H' σ' l s1 o ho
    obtain ⟨a1, a2, h1, h2, h3, h4⟩ := o.own
    obtain ⟨ao, h5, h6⟩ := outs_ok (vs := vs) h1 ho (fun i v hi hv => o.pins (i, v) (ioPn_mem.mpr ⟨i, by omega, hi, hv⟩)) (by omega)
    refine ⟨a2, ao, h2, h5, fun a => ?_, fun a ha => ?_, fun a y e hn hf => o.fr a y ?_⟩
    · have := h3 a; have := h6 a
      simp only [List.count_append] at *; omega
    · have : a ∈ a1 ++ a2 := by
        refine mem_count_le (l := a2 ++ ao) ?_ ha
        have := h6 a
        simp only [List.count_append] at *; omega
      obtain ⟨q1, q2⟩ := h4 a this
      refine ⟨q1, ?_⟩
      by_cases m : a ∈ as
      · exact .inr m
      · left
        simp only [R, if_neg m] at q2
        split at q2
        · rename_i hs
          obtain ⟨y, hy⟩ := Option.isSome_iff_exists.mp hs
          rw [s1 a y hy] at q1
          cases q1
        · exact q2
    · simp only [R, if_neg hn, hf]
      simpa using e
  have hret : ∀ {η' : Env} {outs : Env} {t : T}, outsOf io η' = some outs → evF C io N b ts = .ok (t, outs) → ∀ F' H' σ' v, Same F F' → TV.Ok G.ca (ioPn io vs 0) R F' H' σ' η' [(v, t)] → Q v H' := by
    intro η' outs t ho he F' H' σ' v s1 o
    rw [he] at hm
    obtain ⟨al, ao, h1, h2, h3, h4, h5⟩ := fin s1 o ho
    simp only [OkT] at h1
    obtain ⟨b1, b2, rfl, w, rfl⟩ := h1
    rw [List.append_nil] at h3 h4
    exact hm F' H' v b1 ao s1 o.same h5 w h2 h3 h4
  have he : evF C io N b ts = match evB C b (ts.map some ++ List.replicate (N - ts.length) none) with
    | .nx η => (match outsOf io η with | some o => .ok (.non, o) | none => .err)
    | .rt t η => (match outsOf io η with | some o => .ok (t, o) | none => .err)
    | .ex c p η => (match outsOf io η with | some o => .exc c p o | none => .err)
    | _ => .err := rfl
  cases e : evB C b (ts.map some ++ List.replicate (N - ts.length) none) with
  | nx η' =>
    rw [e] at he
    dsimp only at he
    cases ho : outsOf io η' with
    | none => rw [ho] at he; rw [he] at hm; exact False.elim hm
    | some outs =>
      rw [ho] at he
      exact fun F' H' σ' s1 o => hret ho he F' H' σ' .non s1 (Ok.push o (by simp [View]) rfl)
  | rt t η' =>
    rw [e] at he
    dsimp only at he
    cases ho : outsOf io η' with
    | none => rw [ho] at he; rw [he] at hm; exact False.elim hm
    | some outs =>
      rw [ho] at he
      exact fun F' H' σ' v s1 o => hret ho he F' H' σ' v s1 o
  | ex c p η' =>
    rw [e] at he
    dsimp only at he
    cases ho : outsOf io η' with
    | none => rw [ho] at he; rw [he] at hm; exact False.elim hm
    | some outs =>
      rw [ho] at he
      intro F' H' σ' d s1 o ex
      rw [he] at hm
      obtain ⟨al, ao, h1, h2, h3, h4, h5⟩ := fin s1 o ho
      have h1 : al = [] := h1
      subst h1
      exact hm F' H' d ao s1 o.same h5 h2 (by simpa using h3) (by simpa using h4) ex
  | bk η' => rw [e] at he; rw [he] at hm; exact False.elim hm
  | ct η' => rw [e] at he; rw [he] at hm; exact False.elim hm
  | er => rw [e] at he; rw [he] at hm; exact False.elim hm
/-- a def by its body -/
theorem fn_okI {P : Program} {w : World} {K : PySem.W.Frag} {mg : Str → Option Value} {base : Heap} {x qual : Str} {st : Stmt} {f : Addr} {fd : FuncData} {NN ps : List Str} {io : List Bool} {b : List CS} (F : Fun K x qual st f fd) (S : FnScope NN ps (defScope st)) (hio : io.length ≤ ps.length) (hN : ps.length ≤ NN.length)
    (hbody : ∀ (cdv : Value) (A : Around) (outer : List PySem.Env) (s : Shared) (H : Hp) (vs : List V) (E : XK), Room k (A.deeper (PyProof.Rows.envOfC qual (defScope st) s.heap.objs.size f cdv)) →
      PSs (cxOf (L2.CX P w) P w K mg base NN qual (defScope st) f cdv A outer s H E) (defBody st) (IS { G with pn := ioPn io vs 0 } (fun c d _ H => E c d H) (evB C b))) :
    FnOk P w K mg base (L2.CX P w) (k + 1) f fd ps (spF G io (evF C io NN.length b) ps.length) :=
  F.okX S (fun vs H Q E h => h.1) fun cdv A outer s H vs Q E hr hsp => ⟨_, hbody cdv A outer s H vs E hr, callee hio hN hsp⟩
end
end TV
/-! instances compared by an own __eq__ -/
namespace TV
open PySem PySem.W PyProof.Rows
section
variable {prog : Program} {w : World} {A : Around} {E : Value → Shared → Prop} {s : Shared} {K : Frag} {x C L f y : Addr} {h₀ : Heap} {m : Str → Option Value} {ox : Obj} {od : Option Obj}
theorem ifBoundNe {M : Model} {args : List Value} {Q : Option Value → Shared → Prop} (X : K.In s.heap) (I : InstAt s.heap x ox C od) (hs : findIn K (.ref C) "__ne__" = some (some (.builtin "object.__ne__")))
    (h : wpAny M A (call (.builtin "object.__ne__") (.ref x :: args)) (fun v => Q (some v)) E s) : wpAny M A (callSpecialIfBound? (.ref x) "__ne__" args) Q E s := by
  simp only [callSpecialIfBound?, bindSpecialIfBound?]
  refine wpAny_holding (wpAny_bind (wpAny_bind (wpAny_bind (I.type.here ((looks_findIn X hs).here ?_)))))
  simp only [PySem.F.cmp_object.ne.bind]
  refine wpAny_bind (wpAny_askSetting (wpAny_ite ?_))
  have fin : wpAny M A (call (.builtin "object.__ne__") ([.ref x] ++ args) >>= fun v => pure (some v)) Q E s := wpAny_bind (wpAny_mono h (fun v s' h' => wpAny_pure h') fun _ _ h' => h')
  split
  · exact wpAny_bind (wpAny_pure (wpAny_pure fin))
  · exact wpAny_tryCatch (wpAny_bind (wpAny_pure (wpAny_pure fin)))
theorem objNe_K {Q : Fin → Shared → Prop} (X : K.In s.heap) (I : InstAt s.heap x ox C od) (hs : findIn K (.ref C) "__eq__" = some (some (.ref f))) (hf : isFn K (.ref f) = true) (hu : A.units < cLine)
    (h : wpAny (model prog w) A (call (.ref f) [.ref x, .ref y]) (fun v s' => ∃ b, v = .bool b ∧ Q (.done (.ret (.bool (!b)))) s') E s) : wpAny (model prog w) A (Builtin.«object.__ne__» ⟨[.ref x, .ref y], []⟩) Q E s := by
  unfold Builtin.«object.__ne__»
  repeat (first
    | with_reducible refine wpAny_cRoomFor hu ?_
    | (refine wpAny_bind (m := callSpecialIfBound? (.ref x) (Str.ofString "__eq__") [.ref y])
        (ifBound_K X I hs hf (wpAny_mono h (fun r s' hr => by
          obtain ⟨b, rfl, hq⟩ := hr
          repeat (first | exact hq | exact wpAny_pure hq | exact wpAny_truthy_bool hq | (refine wpAny_bind (m := truthy (.bool _)) (wpAny_truthy_bool ?_)) | wp_step)) fun _ _ e => e)))
    | wp_step)
theorem ne_K {Q : Value → Shared → Prop} (hu : A.units + 1 < cLine) (F : Fr h₀ L s.heap m) (X₀ : K.In h₀) (I : InstAt s.heap x ox C od) (hb : Looks (model prog w) s.heap (typeOf (.ref y)) (.ref C)) (ho : mroIn K C (.type "object") = some true)
    (hs : findIn K (.ref C) "__eq__" = some (some (.ref f))) (hn : findIn K (.ref C) "__ne__" = some (some (.builtin "object.__ne__"))) (hf : isFn K (.ref f) = true)
    (h : wpAny (model prog w) A.in1 (call (.ref f) [.ref x, .ref y]) (fun v s' => ∃ b, v = .bool b ∧ Q (.bool (!b)) s') E s) : wpAny (model prog w) A (richCompare .NotEq (.ref x) (.ref y)) Q E s := by
  have X := X₀.keeps F.keep
  have sub : Looks (model prog w) s.heap (isInstance (.ref x) (.type "object")) true := I.type.andThen (looks_mroIn X ho)
  have one : wpAny (model prog w) A (tryCompare (.ref x) "__ne__" (.ref y)) (fun r s' => ∃ v, r = some v ∧ Q v s') E s := by
    simp only [tryCompare]
    refine wpAny_bind (ifBoundNe X I hn (wpAny_call (codeAny_call_builtin PySem.F.cmp_object.ne.plain PySem.F.cmpEntry_ne
      (check_slot PySem.F.cmpKind_ne PySem.F.cmpSplit_ne sub (PySem.F.cmpArgs_ne _ _)
        (objNe_K (A := A.in1) X I hs hf hu (wpAny_mono h (fun v s' hv => ?_) fun _ _ e => e))))))
    obtain ⟨b, rfl, hq⟩ := hv
    first | exact ⟨b, rfl, wpAny_pure ⟨_, rfl, hq⟩⟩ | exact ⟨b, rfl, wpAny_pure (wpAny_pure ⟨_, rfl, hq⟩)⟩
  unfold richCompare
  simp only [oneThing_ref]
  refine wpAny_holding (wpAny_bind (wpAny_cRoomFor (Nat.lt_of_succ_lt hu) ?_))
  refine wpAny_bind (I.type.here (wpAny_bind (hb.here ?_)))
  split
  · rename_i q
    simp at q
  · refine wpAny_bind (wpAny_pure ?_)
    simp only [Bool.false_eq_true, if_false]
    refine wpAny_bind (wpAny_mono one (fun r s' z => ?_) fun _ _ e => e)
    obtain ⟨v, rfl, hq⟩ := z
    exact wpAny_pure hq
end
end TV

namespace TV
open PySem L2
/-- == and != of two instances of a class, by its own __eq__ -/
def rO (G : Par) (c : Nat) (op : CmpOp) (sp : Sp) : R2 := fun x y H Q => ∃ a b dx dy fs gs, x = .ref a ∧ y = .ref b ∧ H a = some (.ins (G.ca c) dx fs) ∧ H b = some (.ins (G.ca c) dy gs) ∧
  sp [x, y] H (fun v H' => ∃ k, v = .bl k ∧ (match op with | .Eq => Q (.bl k) H' | .NotEq => Q (.bl (!k)) H' | _ => False)) E0
section
variable {X : Cx} {G : Par} {W : WX} {C : Ctx} {R F H : Hp} {σ : St} {η : Env} {D : Ends} {tmp : List (V × T)} {k : Nat}
theorem op_own {f : Addr} {fd : FuncData} {ps : List Str} {sp : Sp} {c : Nat} (op : CmpOp) (hop : op = .Eq ∨ op = .NotEq) (F : FnOk X.prog X.w X.K X.mg X.base (L2.CX X.prog X.w) k f fd ps sp) (hr : Room (k + 1) X.A)
    (hs : PySem.W.findIn X.K (.ref (G.ca c)) "__eq__" = some (some (.ref f))) (hne : PySem.W.findIn X.K (.ref (G.ca c)) "__ne__" = some (some (.builtin "object.__ne__"))) (ho : PySem.W.mroIn X.K (G.ca c) (.type "object") = some true)
    (hf : PySem.W.isFn X.K (.ref f) = true) (hb : Binds X.K fd ps []) : OpR X (compareOp op) (rO G c op sp) := by
  intro pins s σ H x y v u Q I rx ry h
  obtain ⟨a, b, dx, dy, fs, gs, rfl, rfl, ha, hb', hsp⟩ := h
  cases rx
  cases ry
  obtain ⟨mA, J, _⟩ := ins_get I.hok ha
  obtain ⟨mB, J', _⟩ := ins_get I.hok hb'
  obtain ⟨od, J, _⟩ := J.look
  obtain ⟨od', J', _⟩ := J'.look
  obtain ⟨m, hF⟩ := I.fr
  have hl := F.len _ _ _ _ hsp
  have r2 : Vals [V.ref a, V.ref b] [Value.ref a, Value.ref b] := .cons rfl (.cons rfl .nil)
  have bt : BindsTo s fd ⟨[.ref a, .ref b], []⟩ (ps.zip [.ref a, .ref b]) := by
    have := hb s [.ref a, .ref b] I.kIn (by simpa using hl)
    simpa using this
  have e0 : Env0 X.prog X.w X.K X.mg X.base X.A X.stack s H := I.env0
  have go : ∀ (A : Around) (Q' : Value → Shared → Prop), Room k A → A.frames = X.A.frames → (∀ kb H' s', L2.Inv X pins σ H' s' → (match op with | .Eq => Q (.bl kb) H' | .NotEq => Q (.bl (!kb)) H' | _ => False) → Q' (.bool kb) s') → wpAny (model X.prog X.w) A (call (.ref f) [.ref a, .ref b]) Q' X.xe s := by
    intro A Q' hrA hA hQ
    refine wpAny_call (codeAny_mono (F.run A X.stack s H ⟨[.ref a, .ref b], []⟩ [.ref a, .ref b] [.ref a, .ref b] _ E0 hrA ⟨by rw [hA]; exact e0.frames, e0.mod, e0.bs, e0.bsz, e0.funs, e0.frf, e0.hok, e0.bare⟩ bt r2 hsp) fun r s' hq => ?_)
    cases r with
    | error e => exact (passL pins σ H s e s' I hq : X.xe e s')
    | ok fl =>
      cases fl with
      | ret w =>
        obtain ⟨z, H', I', rz, kb, ez, q⟩ := I.after hq
        subst ez
        cases rz
        exact hQ kb H' s' I' q
      | next => exact False.elim hq
      | brk => exact False.elim hq
      | cont => exact False.elim hq
  have hun := hr.un
  rcases hop with rfl | rfl
  · show wpAny _ _ (richCompare .Eq (.ref a) (.ref b)) _ _ _
    refine PySem.W.cmp_K (op := .Eq) (tb := .ref (G.ca c)) (hr.mono (Nat.le_succ k)).units0 hF I.ok.mod.kin J J'.type (by simp [PySem.W.notFirst]) hs hf ?_
    exact go X.A _ (hr.mono (Nat.le_succ k)) rfl fun kb H' s' I' q => ⟨.bl kb, H', I', rfl, q⟩
  · show wpAny _ _ (richCompare .NotEq (.ref a) (.ref b)) _ _ _
    refine ne_K (by omega) hF I.ok.mod.kin J J'.type ho hs hne hf ?_
    exact go X.A.in1 _ hr.in1 rfl fun kb H' s' I' q => ⟨kb, rfl, .bl (!kb), H', I', rfl, q⟩
/-- a callee's promise, asked for at evaluated operands -/
theorem callF_sp {io : List Bool} {m : FS} {os : List Opd} {vs : List V} {n : Nat} {Q : VK} {E : XK} (o1 : G.Ok R F H σ η (tms os vs ++ tmp)) (pl : Pls G H σ η os vs) (hn : vs.length = n) (hne : callF m io os η ≠ .err)
    (hok : ∀ t η3 F3 H3 v, callF m io os η = .ok (.v t, η3) → Same F F3 → G.Ok R F3 H3 σ η3 ((v, t) :: tmp) → Q v H3)
    (hex : ∀ c p η3 F3 H3 d, callF m io os η = .exc c p η3 → Same F F3 → G.Ok R F3 H3 σ η3 tmp → Exh G F3 H3 c p d → E (.ref (G.ca c)) d H3) : spF G io m n vs H Q E := by
  cases ha : args os io η with
  | none => exact absurd (by simp only [callF, ha]) hne
  | some r2 =>
    obtain ⟨ts, η2, is⟩ := r2
    have hcf : callF m io os η = match m ts with
      | .ok (t, outs) => (match backA η2 is outs with
        | some η₂ => .ok (.v t, η₂)
        | none => .err)
      | .exc c p outs => (match backA η2 is outs with
        | some η₂ => .exc c p η₂
        | none => .err)
      | .err => .err := by simp only [callF, ha] <;> rfl
    rw [hcf] at hne
    obtain ⟨F2, s2, o2, hio2, hl, hfz⟩ := args_ok ha o1 pl.w
    obtain ⟨al, hal, hc, hF, back⟩ := Ok.call o2
    obtain ⟨as, wo, hcn⟩ := tmz_owns hal hl
    have mem : ∀ a, a ∈ as ↔ a ∈ al := fun a => ⟨fun h => mem_count (hcn a) h, fun h => mem_count (hcn a).symm h⟩
    refine ⟨hn, F2, ts, as, o2.same, wo, fun a => by rw [hcn]; exact hc a, fun a ha => hF a ((mem a).mp ha), hfz, ?_⟩
    cases hr : m ts with
    | err => rw [hr] at hne; exact absurd rfl hne
    | ok r3 =>
      obtain ⟨t, outs⟩ := r3
      rw [hr] at hne hcf
      dsimp only at hne hcf
      intro F3 H3 v ar ao s3 sH kp wt wo3 hc3 hm3
      cases hb : backA η2 is outs with
      | none => rw [hb] at hne; exact absurd rfl hne
      | some η3 =>
        rw [hb] at hcf
        have o3 : G.Ok R F3 H3 σ η2 ((outT (pickB io vs) outs ++ [(v, t)]) ++ tmp) := back F3 H3 _ (ao ++ ar) s3 sH (fun a y e hn hf => kp a y e (fun z => hn ((mem a).mp z)) hf) (OkT.app.mpr ⟨ao, ar, rfl, outT_ok wo3, by simp only [OkT]; exact ⟨ar, [], by simp, wt, rfl⟩⟩) (fun a => by
          have := hc3 a
          simp only [List.count_append] at *; omega) fun a ha => by
          obtain ⟨q1, q2⟩ := hm3 a (by simp only [List.mem_append] at ha ⊢; exact ha.symm)
          exact ⟨q1, q2.imp id (mem a).mp⟩
        rw [List.append_assoc] at o3
        exact hok t η3 F3 H3 v hcf (s2.trans s3) (back_ok hio2 hb o3)
    | exc c p outs =>
      rw [hr] at hne hcf
      dsimp only at hne hcf
      intro F3 H3 d ao s3 sH kp wo3 hc3 hm3 ex
      cases hb : backA η2 is outs with
      | none => rw [hb] at hne; exact absurd rfl hne
      | some η3 =>
        rw [hb] at hcf
        have o3 : G.Ok R F3 H3 σ η2 (outT (pickB io vs) outs ++ tmp) := back F3 H3 _ ao s3 sH (fun a y e hn hf => kp a y e (fun z => hn ((mem a).mp z)) hf) (outT_ok wo3) hc3 fun a ha => by
          obtain ⟨q1, q2⟩ := hm3 a ha
          exact ⟨q1, q2.imp id (mem a).mp⟩
        exact hex c p η3 F3 H3 d hcf (s2.trans s3) (back_ok hio2 hb o3) ex
theorem kind_in {x : Opd} {t : T} {v : V} (o : G.Ok R F H σ η tmp) (m : ∀ t, x = .v t → (v, t) ∈ tmp) (pl : ∀ i p, x = .pl i p → PlO G.ca H σ η i p v) (hk : kindO η x = some t) : ∃ as, G.Own F H t v as := by
  cases x with
  | v u =>
    simp only [kindO] at hk
    obtain rfl := Option.some.inj hk
    exact Ok.mem o (m u rfl)
  | pl i p =>
    simp only [kindO] at hk
    obtain ⟨w, an, ar, at', hp', _, wo, _⟩ := Ok.focus o hk
    obtain rfl := (pl i p rfl).inj hp'
    exact ⟨an, wo⟩
theorem own_obj {ca : Nat → Addr} {o : Bool} {c : Nat} {ns : List Str} {ts : List T} {x : V} {as : List Addr} (w : Own ca F H (.obj o c ns ts) x as) (e : Same F H) : ∃ a dx fs, x = .ref a ∧ H a = some (.ins (ca c) dx fs) := by
  have := Own.view e _ _ _ w
  simp only [View] at this
  obtain ⟨a, dx, vs, h1, h2, _⟩ := this
  exact ⟨a, dx, _, h1, h2⟩
theorem pls_two {oa ob : Opd} {vs : List V} (pl : Pls G H σ η [oa, ob] vs) : ∃ x y, vs = [x, y] ∧ (∀ i p, oa = .pl i p → PlO G.ca H σ η i p x) ∧ (∀ i p, ob = .pl i p → PlO G.ca H σ η i p y) := by
  cases oa with
  | v t =>
    obtain ⟨x, r, rfl, pl⟩ := pl
    cases ob with
    | v u =>
      obtain ⟨y, r2, rfl, e⟩ := pl
      have e : r2 = [] := e
      subst e
      exact ⟨x, y, rfl, (fun _ _ e => by cases e), (fun _ _ e => by cases e)⟩
    | pl j q =>
      obtain ⟨y, r2, rfl, h, e⟩ := pl
      have e : r2 = [] := e
      subst e
      exact ⟨x, y, rfl, (fun _ _ e => by cases e), (fun _ _ e => by cases e; exact h)⟩
  | pl i p =>
    obtain ⟨x, r, rfl, h1, pl⟩ := pl
    cases ob with
    | v u =>
      obtain ⟨y, r2, rfl, e⟩ := pl
      have e : r2 = [] := e
      subst e
      exact ⟨x, y, rfl, (fun _ _ e => by cases e; exact h1), (fun _ _ e => by cases e)⟩
    | pl j q =>
      obtain ⟨y, r2, rfl, h, e⟩ := pl
      have e : r2 = [] := e
      subst e
      exact ⟨x, y, rfl, (fun _ _ e => by cases e; exact h1), (fun _ _ e => by cases e; exact h)⟩
theorem ocmp_ie {op : CmpOp} {c j : Nat} {a b : CE} {io : List Bool} {m : FS} {Q : VK} (hj : C.meth c "__eq__" = some j) (hio : C.io j = io) (hm : C.fs j = m) (h : IE G W false (evE C (.ocmp op c a b)) σ H Q) :
    IA G W [(pu a, evE C a), (pu b, evE C b)] σ H fun vs H1 => ∃ x y, vs = [x, y] ∧ rO G c op (spF G io m 2) x y H1 Q := by
  obtain ⟨R, F, η, tmp, o, h⟩ := h
  simp only [evE] at h
  refine ⟨R, F, η, tmp, o, ?_⟩
  cases e : evL [(pu a, evE C a), (pu b, evE C b)] η with
  | err => rw [e] at h; exact h
  | exc c p η' => rw [e] at h; exact h
  | ok r =>
    obtain ⟨os, η1⟩ := r
    rw [e] at h
    simp only [TV.R.bind, hj, hio, hm] at h
    intro F1 H1 vs s1 _ o1 pl
    split at h
    · rename_i oa ob
      split at h
      · rename_i ow1 c1 ns1 ts1 ow2 c2 ns2 ts2 hk1 hk2
        split at h
        · rename_i hcc
          obtain ⟨rfl, rfl⟩ := hcc
          obtain ⟨x, y, rfl, p1, p2⟩ := pls_two pl
          obtain ⟨as1, w1⟩ := kind_in o1 (fun t e => by subst e; cases ob <;> simp [tms]) p1 hk1
          obtain ⟨as2, w2⟩ := kind_in o1 (fun t e => by subst e; cases oa <;> simp [tms]) p2 hk2
          obtain ⟨aa, dx, fs, rfl, h1⟩ := own_obj w1 o1.same
          obtain ⟨bb, dy, gs, rfl, h2⟩ := own_obj w2 o1.same
          refine ⟨_, _, rfl, aa, bb, dx, dy, fs, gs, rfl, rfl, h1, by assumption, callF_sp o1 pl rfl (fun z => ?_) (fun t η3 F3 H3 v hcf s3 o3 => ?_) fun cc p η3 F3 H3 d hcf s3 o3 ex => ?_⟩
          · rw [z] at h
            exact h
          · rw [hcf] at h
            simp only [TV.R.cut] at h
            have main : ∀ k, t = .bl k → ∀ kk, EvP G W false R F H σ tmp (.ok (.v (.bl kk), η3)) Q → v = .bl k ∧ Q (.bl kk) H3 := fun k et kk hq => by
              subst et
              obtain ⟨as, w⟩ := Ok.top o3
              simp only [Own] at w
              exact ⟨w.2, hq F3 H3 (.bl kk) (s1.trans s3) (fun z => by cases z) (Ok.push (Ok.drop1 o3) (by simp [View]) rfl)⟩
            cases t with
            | bl k =>
              cases op with
              | Eq => exact ⟨k, main k rfl k h⟩
              | NotEq => exact ⟨k, main k rfl (!k) h⟩
              | _ => exact False.elim h
            | _ => exact False.elim h
          · rw [hcf] at h
            exact False.elim h
        · exact False.elim h
      · exact False.elim h
    · exact False.elim h
end
end TV
/-! own ==, constructors: the rules -/
namespace TV
open PySem L2
section
variable {X : Cx} {G : Par} {W : WX} {C : Ctx} {R F H : Hp} {σ : St} {η : Env} {D : Ends} {tmp : List (V × T)} {k : Nat}
theorem ocmp_bl {op : CmpOp} {c : Nat} {ca cb : CE} {η η' : Env} {x : Opd} (h : evE C (.ocmp op c ca cb) η = .ok (x, η')) : ∃ k, x = .v (.bl k) := by
  simp only [evE] at h
  cases e : evL [(pu ca, evE C ca), (pu cb, evE C cb)] η with
  | err => rw [e] at h; cases h
  | exc c p η' => rw [e] at h; cases h
  | ok r =>
    rw [e] at h
    simp only [TV.R.bind] at h
    split at h
    · split at h
      · split at h
        · split at h
          · split at h
            · split at h
              · cases h; exact ⟨_, rfl⟩
              · cases h; exact ⟨_, rfl⟩
              · cases h
            · cases h
            · cases h
          · cases h
        · cases h
      · cases h
    · cases h
theorem pe_ocmpI {f j : Nat} {fa : Addr} {fd : FuncData} {ps : List Str} {io : List Bool} {m : FS} {c : Nat} {op : CmpOp} {a b : Expr} {ca cb : CE} {pos} (hop : op = .Eq ∨ op = .NotEq) (F : FnOk X.prog X.w X.K X.mg X.base (L2.CX X.prog X.w) k fa fd ps (spF G io m 2)) (hr : Room (k + 1) X.A)
    (hs : PySem.W.findIn X.K (.ref (G.ca c)) "__eq__" = some (some (.ref fa))) (hne : PySem.W.findIn X.K (.ref (G.ca c)) "__ne__" = some (some (.builtin "object.__ne__"))) (ho : PySem.W.mroIn X.K (G.ca c) (.type "object") = some true)
    (hf : PySem.W.isFn X.K (.ref fa) = true) (hb : Binds X.K fd ps []) (hj : C.meth c "__eq__" = some j) (hio : C.io j = io) (hm : C.fs j = m)
    (ha : PE X a (IE G W (pu ca) (evE C ca))) (hb2 : PE X b (IE G W (pu cb) (evE C cb))) (hmk : behindInMarks op b = false) : PE X (.Compare a [op] [b] pos) (IE G W false (evE C (.ocmp op c ca cb))) :=
  pe_by (pe_cmpR (op_own op hop F hr hs hne ho hf hb) ha hb2 hmk) fun σ H Q h => ia_two (f := (pu ca, evE C ca)) (g := (pu cb, evE C cb)) (ocmp_ie hj hio hm h)
theorem pt_ocmpI {f j : Nat} {fa : Addr} {fd : FuncData} {ps : List Str} {io : List Bool} {m : FS} {c : Nat} {op : CmpOp} {a b : Expr} {ca cb : CE} {pos} (hop : op = .Eq ∨ op = .NotEq) (F : FnOk X.prog X.w X.K X.mg X.base (L2.CX X.prog X.w) k fa fd ps (spF G io m 2)) (hr : Room (k + 1) X.A)
    (hs : PySem.W.findIn X.K (.ref (G.ca c)) "__eq__" = some (some (.ref fa))) (hne : PySem.W.findIn X.K (.ref (G.ca c)) "__ne__" = some (some (.builtin "object.__ne__"))) (ho : PySem.W.mroIn X.K (G.ca c) (.type "object") = some true)
    (hf : PySem.W.isFn X.K (.ref fa) = true) (hb : Binds X.K fd ps []) (hj : C.meth c "__eq__" = some j) (hio : C.io j = io) (hm : C.fs j = m)
    (ha : PE X a (IE G W (pu ca) (evE C ca))) (hb2 : PE X b (IE G W (pu cb) (evE C cb))) (hmk : behindInMarks op b = false) : PT X (.Compare a [op] [b] pos) (IB G W (evE C (.ocmp op c ca cb))) :=
  pt_by (pt_cmpR (op_own op hop F hr hs hne ho hf hb) ha hb2 hmk) fun σ H Q h => ia_two (f := (pu ca, evE C ca)) (g := (pu cb, evE C cb)) (ocmp_ie hj hio hm (it_bl h fun η x η' e => ocmp_bl e))
/-! ### a new instance -/
theorem mkF_eq {m : FS} {io : List Bool} {c : Nat} {os : List Opd} {η η1 : Env} {ts : List T} {is : List Nat} (ha : args os io.tail η = some (ts, η1, is)) : mkF m io c os η = match m (.obj true c [] [] :: ts) with
    | .ok (.non, some t :: outs) => (match backA η1 is outs with
      | some η₂ => .ok (.v t, η₂)
      | none => .err)
    | .exc c p (_ :: outs) => (match backA η1 is outs with
      | some η₂ => .exc c p η₂
      | none => .err)
    | _ => .err := by
  simp only [mkF, ha] <;> rfl
theorem mk_ie {c j n : Nat} {es : List CE} {io : List Bool} {m : FS} {Q : VK} (hj : C.init c = some j) (hio : C.io j = true :: io) (hm : C.fs j = m) (hn : es.length + 1 = n) (h : IE G W false (evE C (.mk c es)) σ H Q) :
    tMake (G.ca c) (spF G (true :: io) m n) [] E0 (IA G W (clos C es)) σ H Q := by
  obtain ⟨R, F, η, tmp, o, h⟩ := h
  simp only [evE] at h
  have hev : evs C es = evL (clos C es) := funext (evs_evL C es)
  rw [hev] at h
  refine ⟨R, F, η, tmp, o, ?_⟩
  cases e : evL (clos C es) η with
  | err => rw [e] at h; exact h
  | exc c p η' => rw [e] at h; exact h
  | ok r =>
    obtain ⟨os, η1⟩ := r
    rw [e] at h
    simp only [TV.R.bind, hj, hio, hm] at h
    intro F1 H1 vs s1 _ o1 pl x dx hx hdx hne
    rw [List.append_nil]
    cases ha : args os io η1 with
    | none =>
      have : mkF m (true :: io) c os η1 = .err := by simp only [mkF, List.tail_cons, ha]
      rw [this] at h
      exact False.elim h
    | some r2 =>
      obtain ⟨ts, η2, is⟩ := r2
      rw [mkF_eq (io := true :: io) ha] at h
      obtain ⟨F2, s2, o2, hio2, hl, hfz⟩ := args_ok ha o1 pl.w
      let H2 := upd (upd H1 dx (.own x)) x (.ins (G.ca c) dx [])
      have hx2 : upd H1 dx (.own x) x = none := by rw [upd_ne hne.symm]; exact hx
      have sm : Same H1 H2 := (same_new hdx).trans (same_new hx2)
      have hox : H2 x = some (.ins (G.ca c) dx []) := upd_same
      have hod : H2 dx = some (.own x) := by
        show upd (upd H1 dx (.own x)) x _ dx = _
        rw [upd_ne hne, upd_same]
      have o3 : G.Ok R F2 H2 σ η2 ((.ref x, .obj true c [] []) :: (tmz ts vs ++ tmp)) := Ok.newOwn o2 (as := [x, dx]) sm (by
        simp only [Own]
        exact ⟨x, dx, [], [], rfl, rfl, hox, hod, rfl, by simp [Owns]⟩) (fun a => by
          simp only [List.count_cons, List.count_nil]
          by_cases e1 : (x == a) = true
          · by_cases e2 : (dx == a) = true
            · exact absurd ((eq_of_beq e2).trans (eq_of_beq e1).symm) hne
            · simp [e1, e2]
          · by_cases e2 : (dx == a) = true
            · simp [e1, e2]
            · simp [e1, e2]) (by simp [hx, hdx])
      have o4 : G.Ok R F2 H2 σ η2 (tmz (.obj true c [] [] :: ts) (.ref x :: vs) ++ tmp) := Ok.perm (by
        simp only [tmz, List.append_assoc, List.singleton_append]
        exact List.perm_middle.symm) o3
      obtain ⟨al, hal, hc, hF, back⟩ := Ok.call o4
      obtain ⟨as, wo, hcn⟩ := tmz_owns hal (by simp [hl])
      have mem : ∀ a, a ∈ as ↔ a ∈ al := fun a => ⟨fun h => mem_count (hcn a) h, fun h => mem_count (hcn a).symm h⟩
      refine ⟨by rw [List.length_cons, pl.len, evL_len e]; simpa [clos] using hn, F2, _, as, o4.same, wo, fun a => by rw [hcn]; exact hc a, fun a ha => hF a ((mem a).mp ha), fun k t hk hb => ?_, ?_⟩
      · cases k with
        | zero => simp at hb
        | succ k => exact hfz k t (by simpa using hk) (by simpa using hb)
      · have kpc : ∀ {F3 H3}, KeptBy F2 H2 F3 H3 as → KeptBy F2 H2 F3 H3 al := fun kp a y e hn hf => kp a y e (fun z => hn ((mem a).mp z)) hf
        cases hr : m (.obj true c [] [] :: ts) with
        | err => rw [hr] at h; exact h
        | ok r3 =>
          obtain ⟨t, outs⟩ := r3
          rw [hr] at h
          intro F3 H3 v ar ao s3 sH kp wt wo3 hc3 hm3
          cases t with
          | non =>
            cases outs with
            | nil => exact False.elim h
            | cons o5 outs =>
              cases o5 with
              | none => exact False.elim h
              | some t5 =>
                dsimp only at h
                cases hb : backA η2 is outs with
                | none => rw [hb] at h; exact False.elim h
                | some η3 =>
                  rw [hb] at h
                  simp only [Own] at wt
                  obtain ⟨rfl, rfl⟩ := wt
                  simp only [pickB, OwnsO] at wo3
                  obtain ⟨a1, a2, rfl, w5, wo3⟩ := wo3
                  have o6 : G.Ok R F3 H3 σ η2 ((outT (pickB io vs) outs ++ [(.ref x, t5)]) ++ tmp) := back F3 H3 _ (a2 ++ a1) s3 sH (kpc kp) (OkT.app.mpr ⟨a2, a1, rfl, outT_ok wo3, by simp only [OkT]; exact ⟨a1, [], by simp, w5, rfl⟩⟩) (fun a => by
                    have := hc3 a
                    simp only [List.nil_append, List.count_append] at *; omega) fun a ha => by
                    obtain ⟨q1, q2⟩ := hm3 a (by simp only [List.nil_append, List.mem_append] at ha ⊢; exact ha.symm)
                    exact ⟨q1, q2.imp id (mem a).mp⟩
                  rw [List.append_assoc] at o6
                  exact ⟨rfl, h F3 H3 _ ((s1.trans s2).trans s3) (fun z => by cases z) (back_ok hio2 hb o6)⟩
          | _ => exact False.elim h
        | exc cc p outs =>
          rw [hr] at h
          exfalso
          cases outs with
          | nil => exact h
          | cons o5 outs =>
            dsimp only at h
            cases hb : backA η2 is outs with
            | none => rw [hb] at h; exact h
            | some η3 => rw [hb] at h; exact h
theorem pe_mkI {f : Addr} {fd : FuncData} {ps : List Str} {io : List Bool} {m : FS} {c j : Nat} {x : Str} {p pos : Pos} {e : Expr} {es : List Expr} {ces : List CE} (M : Mk X.K (G.ca c) f) (F : FnOk X.prog X.w X.K X.mg X.base (L2.CX X.prog X.w) k f fd ps (spF G (true :: io) m ps.length)) (hr : Room (k + 1) X.A) (hg : Gl X x) (hmg : X.mg x = some (.ref (G.ca c))) (hb : Binds X.K fd ps [])
    (hj : C.init c = some j) (hio : C.io j = true :: io) (hm : C.fs j = m) (hn : ces.length + 1 = ps.length) (ha : PA X (e :: es) (IA G W (clos C ces))) (hdb : (x == ("__debug__" : Str)) = false) (he : starEach (e :: es) X.env = (false, eval e X.env) :: starEach es X.env) (hpl : (backTo pos (starEach es X.env)).any (·.1) = false) :
    PE X (.Call (.Name x p) (e :: es) [] pos) (IE G W false (evE C (.mk c ces))) :=
  pe_by (pe_make M F hr hg hmg hb .nil passL ha hdb he hpl) fun σ H Q h => mk_ie hj hio hm hn h
end
end TV
/-! dict displays of one pair, dict comprehensions -/
namespace TV
open PySem L2 PySem.Spec
section
variable {X : Cx} {G : Par} {W : WX} {C : Ctx} {R F H : Hp} {σ : St} {η : Env} {D : Ends} {tmp : List (V × T)} {ca : Nat → Addr} {k : Nat}
/-- a temporary container is written -/
theorem Ok.storeTmp {l : List (V × T)} {z v : V} {t n : T} (o : G.Ok R F H σ η ((z, t) :: (l ++ (v, n) :: tmp))) :
    ∃ an al, G.Own F H n v an ∧ G.Own F H t z al ∧ (∀ a, (an ++ al).count a ≤ 1) ∧ ∀ H' n' an', (∀ a, a ∉ an → ∀ o, H a = some o → H' a = some o) → G.Own F H' n' v an' → (∀ a, an'.count a ≤ (an ++ al).count a) → G.Ok R F H' σ η ((v, n') :: tmp) := by
  obtain ⟨a1, a2, h1, h2, h3, h4⟩ := o.own
  simp only [OkT] at h2
  obtain ⟨al, b2, rfl, wt, h2⟩ := h2
  obtain ⟨c1, c2, rfl, hl, h2⟩ := OkT.app.mp h2
  simp only [OkT] at h2
  obtain ⟨an, d2, rfl, wn, hr⟩ := h2
  refine ⟨an, al, wn, wt, fun a => ?_, fun H' n' an' kp w' hle => ?_⟩
  · have := h3 a
    simp only [List.count_append] at *; omega
  · have far : ∀ a ∈ a1 ++ d2, a ∉ an := fun a ha hn => by
      have := h3 a
      have e1 := List.count_pos_iff.mpr ha
      have e2 := List.count_pos_iff.mpr hn
      simp only [List.count_append] at *; omega
    have nF : ∀ a ∈ an, F a = none ∧ R a = none := fun a ha => h4 a (by simp [ha])
    refine ⟨fun a y e => kp a (fun m => by rw [(nF a m).1] at e; cases e) y (o.same a y e), fun a y e => ⟨kp a (fun m => by rw [(nF a m).2] at e; cases e) y (o.fr a y e).1, (o.fr a y e).2⟩,
      ⟨a1, an' ++ d2, h1.frame (Same.refl F) fun a ha => kp a (far a (by simp [ha])), by simp only [OkT]; exact ⟨an', d2, rfl, w', hr.frame (Same.refl F) fun a ha => kp a (far a (by simp [ha]))⟩, fun a => ?_, fun a ha => h4 a ?_⟩, o.pins⟩
    · have := h3 a; have := hle a
      simp only [List.count_append] at *; omega
    · refine mem_count_le ?_ ha
      have := hle a
      simp only [List.count_append] at *; omega
/-- a dict's store, told as DPut -/
theorem st_dput {pins : List (Addr × Obj)} {s : Shared} {i v : V} {Q : Hp → Prop} {ks ts : List T} {n' key t : T} {o : V} {an al : List Addr} {iv : Value} (I : L2.Inv X pins σ H s) (e : Same F H) (w : Own ca F H (.dic true ks ts) o an) (ck : CV ca F H key i) (wt : Own ca F H t v al) (hc : ∀ a, (an ++ al).count a ≤ 1)
    (hs : setT (.dic true ks ts) key t = some n') (q : ∀ H' an', (∀ a, a ∉ an → ∀ o, H a = some o → H' a = some o) → Own ca F H' n' o an' → (∀ a, an'.count a ≤ (an ++ al).count a) → Q H') :
    ∃ a H2 H', o = .ref a ∧ L2.Inv X pins σ H2 s ∧ DPut H2 a i v H' ∧ Q H' := by
  obtain ⟨hk, hz, hcase⟩ := setT_dic hs
  obtain ⟨a, vs, rr, rfl, rfl, ha, wv⟩ : ∃ a vs r, o = .ref a ∧ an = a :: r ∧ DicAt H a ks vs ∧ Owns ca F H ts vs r := by simpa only [Own] using w
  have ne := ne_of_count hc
  have fw : ∀ {u : HO}, Owns ca F (upd H a u) ts vs rr := fun {u} => Owns.frame (Same.refl F) _ _ _ (fr_upd fun b hb => ne b (by simp [hb])) wv
  have ft : ∀ {u : HO}, Own ca F (upd H a u) t v al := fun {u} => Own.frame (Same.refl F) _ _ _ (fr_upd fun b hb => ne b (by simp [hb])) wt
  simp only [keyFit, Bool.and_eq_true] at hk
  have cnt : ∀ {r' : List Addr}, (∀ a, r'.count a ≤ (rr ++ al).count a) → ∀ b, (a :: r').count b ≤ ((a :: rr) ++ al).count b := fun {r'} e5 b => by
    have := e5 b
    simp only [List.cons_append, List.count_cons, List.count_append] at *; omega
  have goK : ∀ (kk : List Key) (H2 : Hp), (∀ u, upd H2 a u = upd H a u) → ks = kk.map keyT → kk.length = vs.length → H2 a = some (.dK (kk.zip vs)) → L2.Inv X pins σ H2 s → ∀ kx : Key, key = keyT kx → i = kV kx → ∃ a' H2 H', V.ref a = .ref a' ∧ L2.Inv X pins σ H2 s ∧ DPut H2 a' i v H' ∧ Q H' := by
    intro kk H2 hu hks hl h2 I2 kx hkx hi
    have nd : kk.Nodup := by
      have := dK_nodup I2 h2
      rwa [zip_fst0 hl] at this
    subst hks hkx
    obtain ⟨kk', vs', ts', r', e1, e2, e3, e4, e5⟩ := dic_put (f := keyT) (fun a b h => keyT_inj (by rw [h]; exact T.beq_refl _)) (k := kx) (v := v) (n' := n') (H' := upd H a (.dK (putK (kk.zip vs) kx v))) hl nd wv.length fw ft hcase
    refine ⟨a, H2, upd H a (.dK (putK (kk.zip vs) kx v)), rfl, I2, by
      rw [hi, ← hu]
      exact DPut.k h2 (by rw [List.length_zip, ← hl, Nat.min_self]; exact sizeL_lt (by simpa using hz)), q _ (a :: r') keep_upd ?_ (cnt e5)⟩
    rw [e3]
    simp only [Own]
    exact ⟨a, vs', r', rfl, rfl, .inl ⟨kk', rfl, e2, by rw [upd_same, e1]⟩, e4⟩
  have goT : ∀ (kk : List (List Key)) (H2 : Hp), (∀ u, upd H2 a u = upd H a u) → ks = kk.map (fun l => .tup (l.map keyT)) → kk.length = vs.length → H2 a = some (.dT (kk.zip vs)) → L2.Inv X pins σ H2 s → ∀ (kx : List Key) (b : Addr), key = .tup (kx.map keyT) → i = .ref b → H2 b = some (.tup (kx.map kV)) → ∃ a' H2 H', V.ref a = .ref a' ∧ L2.Inv X pins σ H2 s ∧ DPut H2 a' i v H' ∧ Q H' := by
    intro kk H2 hu hks hl h2 I2 kx bk hkx hi hb2
    have nd : kk.Nodup := by
      have := dT_nodup I2 h2
      rwa [zip_fst0 hl] at this
    subst hks hkx
    obtain ⟨kk', vs', ts', r', e1, e2, e3, e4, e5⟩ := dic_put (f := fun l => T.tup (l.map keyT)) tupkey_inj (k := kx) (v := v) (n' := n') (H' := upd H a (.dT (putK (kk.zip vs) kx v))) hl nd wv.length fw ft hcase
    refine ⟨a, H2, upd H a (.dT (putK (kk.zip vs) kx v)), rfl, I2, by
      rw [hi, ← hu]
      exact DPut.t h2 hb2 (by rw [List.length_zip, ← hl, Nat.min_self]; exact sizeL_lt (by simpa using hz)), q _ (a :: r') keep_upd ?_ (cnt e5)⟩
    rw [e3]
    simp only [Own]
    exact ⟨a, vs', r', rfl, rfl, .inr ⟨kk', rfl, e2, by rw [upd_same, e1]⟩, e4⟩
  have upd2 : ∀ (o1 u : HO), upd (upd H a o1) a u = upd H a u := fun o1 u => by rw [upd_upd]
  rcases keyOk_of hk.1 with ⟨kx, rfl, ht⟩ | ⟨kx, rfl, ht⟩
  · have hi := cv_key ck
    rcases ha with ⟨kk, hks, hl, h2⟩ | ⟨kk, hks, hl, h2⟩
    · exact goK kk H (fun _ => rfl) hks hl h2 I kx rfl hi
    · cases kk with
      | cons z kk =>
        have := hk.2
        rw [hks, ht] at this
        simp [isTup] at this
      | nil =>
        have hv : vs = [] := List.eq_nil_of_length_eq_zero hl.symm
        subst hv
        exact goK [] (upd H a (.dK [])) (upd2 _) (by simpa using hks) rfl upd_same (conv0 I (.inr h2) (.inl rfl)) kx rfl hi
  · obtain ⟨bk, hi, hb⟩ := cv_tkey e ck
    rcases ha with ⟨kk, hks, hl, h2⟩ | ⟨kk, hks, hl, h2⟩
    · cases kk with
      | cons z kk =>
        have := hk.2
        rw [hks, ht] at this
        simp [isTup_key] at this
      | nil =>
        have hv : vs = [] := List.eq_nil_of_length_eq_zero hl.symm
        subst hv
        have nb : bk ≠ a := fun z => by rw [z, h2] at hb; cases hb
        exact goT [] (upd H a (.dT [])) (upd2 _) (by simpa using hks) rfl upd_same (conv0 I (.inl h2) (.inr rfl)) kx bk rfl hi (by rw [upd_ne nb]; exact hb)
    · exact goT kk H (fun _ => rfl) hks hl h2 I kx bk rfl hi hb
/-- the store that a dict comprehension makes -/
theorem dictSet_put {H' : Hp} {pins : List (Addr × Obj)} {s : Shared} {a : Addr} {y v : V} {u r : Value} {E : Value → Shared → Prop} {Q : Unit → Shared → Prop} (hu : X.A.units + 1 < cLine) (I : L2.Inv X pins σ H s) (g : DPut H a y v H') (ry : RelV y u) (rv : RelV v r) (h : ∀ s', L2.Inv X pins σ H' s' → Q () s') :
    wpAny (model X.prog X.w) X.A (dictSet a u r) Q E s := by
  rcases g with ⟨kvs, kk, e, rfl, l, rfl⟩ | ⟨kvs, kk, b, e, rfl, eb, l, rfl⟩
  · exact d_dictSet I e l ry rv h
  · cases ry
    obtain ⟨z, hd, xs, rel, dd⟩ := dt_of I.hok e
    have e2 := Paired.length rel
    have e3 := length_putK kvs kk v
    refine wpAny_dictSet_heap (hsz := by omega) (show X.A.units < cLine by omega) (key_of I.hok eb) dd fun h' dd' hs => h _ ?_
    obtain ⟨q, es, ep, hq, h2, h3, h4, _, h5⟩ := dd'
    exact d_write I (by rw [e]; trivial) hs ⟨q, hq⟩ ⟨by omega, hd, _, (rel.put kk eb rv).keeps fun c ys ec => by rw [upd_ne (fun z => by rw [z, e] at ec; cases ec)]; exact ec, q, es, ep, hq, h2, h3, h4, h5⟩
/-- {k: v for target in iter if ..}, any keys that a store takes -/
def tDcP (P : V → V → V → Hp → (Hp → Prop) → Prop) (wi : TI) (g : TG) (tt : TT) (tk tv : TE) (vs : List Nat) : TE := fun σ H Q => wi σ H fun J H1 => ∀ D, H1 D = none → ∃ Z : Nat → Nat → Hp → Prop, (∃ m, Z 0 m (upd H1 D (.dK []))) ∧ ∀ i m H, Z i m H →
  (J.stop i H ∧ Q (.ref D) H) ∨ (J.go i H ∧ ∃ Nx : Hp → Prop, (∀ H', Nx H' → ∃ m', m' < m ∧ Z (i + 1) m' H') ∧ ∀ x H', J.yld i H x H' → g x (L2.wipe σ vs) H' fun σ2 H2 => L2.wipe σ2 vs = L2.wipe σ vs ∧ tt σ2 H2 fun b H3 =>
    if b = true then tk σ2 H3 fun y H4 => tv σ2 H4 fun z H5 => P (.ref D) y z H5 Nx else Nx H3)
/-- what a store may ask -/
def Puts (X : Cx) (P : V → V → V → Hp → (Hp → Prop) → Prop) : Prop := ∀ (pins : List (Addr × Obj)) (s : Shared) (σ : St) (H : Hp) (o y z : V) (Q : Hp → Prop), L2.Inv X pins σ H s → P o y z H Q → ∃ a H2 H', o = .ref a ∧ L2.Inv X pins σ H2 s ∧ DPut H2 a y z H' ∧ Q H'
variable {P : V → V → V → Hp → (Hp → Prop) → Prop}
theorem dcP_core {pins : List (Addr × Obj)} {s : Shared} {Q : VK} {kx vx tg iter : Expr} {ifs : List Expr} {scope : Scope} {own : List (Str × Nat)} {pos pos' : Pos} {wi : TI} {g : TG} {tt : TT} {tk tv : TE} {use : Option (Value → Sem Unit)} {Qf : Value → Shared → Prop} (I : L2.Inv X pins σ H s) (hun : X.A.units + 1 < cLine) (hc : X.calm = true) (hN : X.N.Nodup) (hi : PI X tg iter wi) (ok : BlkOk X.N X.env.scope scope own)
    (hP : ∀ (s : Shared) (H : Hp) (e : PySem.Env) (fp : List Addr), Puts (X.blk s H scope e fp) P)
    (hg : ∀ (s : Shared) (H : Hp) (C : Addr) (cl : List (Str × Addr)) (fp : List Addr), PG (X.blk s H scope (compEnvC scope cl C X.env) fp) tg g) (ht : ∀ (s : Shared) (H : Hp) (C : Addr) (cl : List (Str × Addr)) (fp : List Addr), PTs (X.blk s H scope (compEnvC scope cl C X.env) fp) ifs tt)
    (hk : ∀ (s : Shared) (H : Hp) (C : Addr) (cl : List (Str × Addr)) (fp : List Addr), PE (X.blk s H scope (compEnvC scope cl C X.env) fp) kx tk)
    (he : ∀ (s : Shared) (H : Hp) (C : Addr) (cl : List (Str × Addr)) (fp : List Addr), PE (X.blk s H scope (compEnvC scope cl C X.env) fp) vx tv) (hs : ∀ x, foldedSetIterable iter X.env x = pure x) (h : tDcP P wi g tt tk tv (own.map (·.2)) σ H Q)
    (hRR : ∀ L A s' m H', L2.Inv X pins σ H' s' → Q (.ref L) H' → s'.heap.Ns A m → FpOk X pins H' A → compPost (model X.prog X.w) X.A X.xe use Qf (.ref L) A (.ok .next) s') :
    wpAny (model X.prog X.w) X.A (comprehension (.DictComp kx vx [⟨tg, iter, ifs, 0⟩] scope pos) scope X.env pos' newDict false (eval iter X.env) use) Qf X.xe s := by
  have has : ∀ y ∈ scope.names, y.2 = .free → ∃ c, X.env.cells.lookup y.1 = some c := fun y hy e => I.ok.has _ (ok.free y hy e)
  refine wpAny_comprehension_free (use := use) rfl hs (closure_ok has) ok.kind (fun y hy e => by rw [ok.uniq y hy, e]) (thn (hi.run pins s σ H _ I h) fun _ _ hx => thn hx fun _ s2 hit => ?_)
  obtain ⟨it, fp, tn, J, H2, rfl, I2, T, st2, f2, q⟩ := hit
  refine wpAny_newObj_type (newEnv_comp ?_)
  -- the new dict, then the block's own frame
  obtain ⟨Z, ⟨m0, z0⟩, turn⟩ := q s2.heap.objs.size (I2.hok.fresh (Nat.le_refl _))
  generalize hs3 : ({ s2 with heap := s2.heap.push { cls := .type "dict", data := .dict #[] } } : Shared) = s3
  have h3 : s3.heap = s2.heap.push { cls := .type "dict", data := .dict #[] } := by rw [← hs3]
  generalize hH3 : upd H2 s2.heap.objs.size (.dK []) = H3 at z0
  have I3 : L2.Inv X pins σ H3 s3 := by
    rw [← hs3, ← hH3]
    exact I2.laid (t' := s2.toks) (fun _ _ e => Heap.get?_push_of_some _ e) (Nat.le_refl _) (dk_empty s2.heap I2.big)
  have f3 : ∀ b ∈ fp, FpOk X pins H3 b ∧ b < s3.heap.objs.size := fun b hb => by
    obtain ⟨o, e, _⟩ := T.obj _ _ st2 b hb
    have hlt := Heap.lt_size e
    refine ⟨⟨?_, (f2 b hb).2⟩, by rw [h3, Heap.size_push]; exact Nat.lt_succ_of_lt hlt⟩
    rw [← hH3, upd_ne (Nat.ne_of_lt hlt)]
    exact (f2 b hb).1
  have I4 := block_start I3 ok hN f3
  show codeAny _ _ (.compStart _ 0 (.ref it) (.ref s2.heap.objs.size) (compEnvC scope (cellsFrom (s3.heap.objs.size + 1) scope.names (cloFrom X.env.cells scope.names [])) s3.heap.objs.size X.env)) (compPost (model X.prog X.w) X.A X.xe use _ (.ref s2.heap.objs.size) s3.heap.objs.size)
    { s3 with heap := pushCells (s3.heap.push { cls := .type "dict", data := .dict #[] }) scope.names }
  generalize hcl : cellsFrom (s3.heap.objs.size + 1) scope.names (cloFrom X.env.cells scope.names []) = cl at I4 ⊢
  have pg := hg s3 H3 s3.heap.objs.size cl fp
  have pt := ht s3 H3 s3.heap.objs.size cl fp
  have pk := hk s3 H3 s3.heap.objs.size cl fp
  have pv := he s3 H3 s3.heap.objs.size cl fp
  have pp := hP s3 H3 (compEnvC scope cl s3.heap.objs.size X.env) fp
  generalize hce : compEnvC scope cl s3.heap.objs.size X.env = ce at I4 pg pt pk pv pp ⊢
  have cL : ce.locals = s3.heap.objs.size := by subst hce; rfl
  generalize hs4 : ({ s3 with heap := pushCells (s3.heap.push { cls := .type "dict", data := .dict #[] }) scope.names } : Shared) = s4 at I4 ⊢
  have st4 : tn 0 s4.heap := T.keep _ _ _ st2 fun b _ o e => by
    rw [← hs4]
    exact pushCells_keeps _ _ _ _ (Heap.get?_push_of_some _ (by rw [h3]; exact Heap.get?_push_of_some _ e))
  have fp4 : ∀ {σ' : St} {H' : Hp} {s' : Shared}, L2.Inv (X.blk s3 H3 scope ce fp) [] σ' H' s' → (∀ b ∈ fp, H' b = none) → ∀ b ∈ fp, FpOk (X.blk s3 H3 scope ce fp) [] H' b := fun I' hn b hb =>
    ⟨hn b hb, (I'.ok.exf b hb).1, I'.ok.exfs b hb, .inl hb, fun x c e => (I'.ok.exf b hb).2 x c e, fun p hp => by cases hp⟩
  refine (fun loop => codeAny_compStart_dict loop (T.self X.A 0 _ _ _ st4 loop)) (?_ : codeAny (model X.prog X.w) X.A (.compLoop (.DictComp kx vx [⟨tg, iter, ifs, 0⟩] scope pos) 0 (.ref it) (.ref s2.heap.objs.size) ce) _ s4)
  refine compLoop_anyD (fun n s' => ∃ i H', L2.Inv (X.blk s3 H3 scope ce fp) [] (L2.wipe σ (own.map (·.2))) H' s' ∧ tn i s'.heap ∧ (∀ b ∈ fp, H' b = none) ∧ Z i n H') ?_ m0 ⟨0, H3, I4, st4, fun b hb => (f3 b hb).1.1, z0⟩
  rintro n s5 ⟨i, H5, I5, st5, n5, z5⟩
  rcases turn i n H5 z5 with ⟨stop, fin⟩ | ⟨go, Nx, hNx, step⟩
  · refine thnF (T.done (X.blk s3 H3 scope ce fp) rfl rfl rfl hc i [] s5 _ H5 (fun _ _ => False) I5 (fp4 I5 n5) st5 stop) fun r s6 ⟨hr, I6⟩ => ?_
    subst hr
    have I7 : L2.Inv X pins σ H5 s6 := I3.call' (ch := fp) I6.os I6.base I6.hok I6.bare fun b hb => ⟨(f3 b hb).1.2.2.2.1, (f3 b hb).1.2.1, (f3 b hb).1.2.2.2.2.1, (f3 b hb).1.2.2.2.2.2⟩
    obtain ⟨m, hn, _⟩ := I6.loc
    have hn : s6.heap.Ns ce.locals m := hn
    have nC : H5 ce.locals = none := I6.free
    rw [cL] at hn nC
    exact hRR _ _ s6 m H5 I7 fin hn (I3.fpOk (Nat.le_refl _) nC)
  · refine thnF (T.item (X.blk s3 H3 scope ce fp) rfl rfl rfl hc i [] s5 _ H5 (fun _ _ => False) I5 (fp4 I5 n5) st5 go) fun r s6 ⟨u, hr, h6⟩ => ?_
    subst hr
    refine thnF h6 fun _ s7 ⟨x, H7, I7, r7, y7, st7, n7⟩ => ?_
    refine thnF (pg.run _ s7 _ H7 x u _ (I7.pinned (fp4 I7 n7) (T.obj _ _ st7)) r7 (step x H7 y7)) fun _ s8 ⟨σ8, H8, I8, hw, q8⟩ => ?_
    refine thnF (pt.run _ s8 σ8 H8 _ I8 q8) fun b s9 ⟨H9, I9, q9⟩ => ?_
    have again : ∀ {s' : Shared} {H' : Hp}, L2.Inv (X.blk s3 H3 scope ce fp) ([] ++ pinsAt fp s7.heap) σ8 H' s' → Nx H' → ∃ m, m < n ∧ ∃ i H', L2.Inv (X.blk s3 H3 scope ce fp) [] (L2.wipe σ (own.map (·.2))) H' s' ∧ tn i s'.heap ∧ (∀ b ∈ fp, H' b = none) ∧ Z i m H' := fun {s' H'} I' nx => by
      obtain ⟨m', hm, z'⟩ := hNx H' nx
      have stay : ∀ b ∈ fp, ∀ o, s7.heap.get? b = some o → s'.heap.get? b = some o ∧ H' b = none := fun b hb o e => by
        have z := I'.pin (b, o) (List.mem_append_right _ (List.mem_append_right _ (mem_pinsAt hb e)))
        exact ⟨z.1, z.2.1⟩
      refine ⟨m', hm, i + 1, H', (I'.unpinned (pins := [])).weak (by rw [← hw, wipe_length]) (fun j v e => ?_), T.keep _ _ _ st7 fun b hb o e => (stay b hb o e).1, fun b hb => ?_, z'⟩
      · rw [← hw] at e
        exact (wipe_some e).1
      · obtain ⟨o, e, _⟩ := T.obj _ _ st7 b hb
        exact (stay b hb o e).2
    cases b with
    | false => exact again I9 q9
    | true =>
      refine thnF (pk.run _ s9 σ8 H9 _ I9 q9) fun _ s10 ⟨y, H10, I10, ry, q10⟩ => ?_
      refine thnF (pv.run _ s10 σ8 H10 _ I10 q10) fun _ s11 ⟨z, H11, I11, rz, q11⟩ => ?_
      obtain ⟨a, H12, H13, ea, I12, g12, nx⟩ := pp _ _ _ _ _ _ _ _ I11 q11
      cases ea
      exact dictSet_put (X := X.blk s3 H3 scope ce fp) hun I12 g12 ry rz fun s' I' => again I' nx
theorem pe_dcP {kx vx tg iter : Expr} {ifs : List Expr} {scope : Scope} {own : List (Str × Nat)} {pos : Pos} {wi : TI} {g : TG} {tt : TT} {tk tv : TE} (hun : X.A.units + 1 < cLine) (hc : X.calm = true) (hN : X.N.Nodup) (hi : PI X tg iter wi) (ok : BlkOk X.N X.env.scope scope own)
    (hP : ∀ (s : Shared) (H : Hp) (e : PySem.Env) (fp : List Addr), Puts (X.blk s H scope e fp) P)
    (hg : ∀ (s : Shared) (H : Hp) (C : Addr) (cl : List (Str × Addr)) (fp : List Addr), PG (X.blk s H scope (compEnvC scope cl C X.env) fp) tg g) (ht : ∀ (s : Shared) (H : Hp) (C : Addr) (cl : List (Str × Addr)) (fp : List Addr), PTs (X.blk s H scope (compEnvC scope cl C X.env) fp) ifs tt)
    (hk : ∀ (s : Shared) (H : Hp) (C : Addr) (cl : List (Str × Addr)) (fp : List Addr), PE (X.blk s H scope (compEnvC scope cl C X.env) fp) kx tk)
    (he : ∀ (s : Shared) (H : Hp) (C : Addr) (cl : List (Str × Addr)) (fp : List Addr), PE (X.blk s H scope (compEnvC scope cl C X.env) fp) vx tv) (hs : ∀ x, foldedSetIterable iter X.env x = pure x) :
    PE X (.DictComp kx vx [⟨tg, iter, ifs, 0⟩] scope pos) (tDcP P wi g tt tk tv (own.map (·.2))) := by
  refine ⟨fun pins s σ H Q I h => ?_⟩
  rw [arm_eval_DictComp]
  exact dcP_core I hun hc hN hi ok hP hg ht hk he hs h fun L A s' m H' I' q hn f => ⟨m, hn, fun h'' sb => ⟨.ref L, H', I'.turned (t' := s'.toks) (fun b o hb e => (sb.2 b hb).trans e) f.1 f.2.1 f.2.2.2.1 f.2.2.2.2.1 f.2.2.2.2.2, rfl, q⟩⟩
/-- name = {..}, the name a local -/
theorem ps_setDcP {i : Nat} {y : Str} {py : Pos} {kx vx tg iter : Expr} {ifs : List Expr} {scope : Scope} {own : List (Str × Nat)} {pos spos : Pos} {wi : TI} {g : TG} {tt : TT} {tk tv : TE} (hy : X.N[i]? = some y) (hyl : X.env.scope.names.lookup y = some .local)
    (hsw : swapsWith (.DictComp kx vx [⟨tg, iter, ifs, 0⟩] scope pos) (some (.Name y py)) spos.line X.env = pure true) (hun : X.A.units + 1 < cLine) (hc : X.calm = true) (hN : X.N.Nodup) (hi : PI X tg iter wi) (ok : BlkOk X.N X.env.scope scope own)
    (hP : ∀ (s : Shared) (H : Hp) (e : PySem.Env) (fp : List Addr), Puts (X.blk s H scope e fp) P)
    (hg : ∀ (s : Shared) (H : Hp) (C : Addr) (cl : List (Str × Addr)) (fp : List Addr), PG (X.blk s H scope (compEnvC scope cl C X.env) fp) tg g) (ht : ∀ (s : Shared) (H : Hp) (C : Addr) (cl : List (Str × Addr)) (fp : List Addr), PTs (X.blk s H scope (compEnvC scope cl C X.env) fp) ifs tt)
    (hk : ∀ (s : Shared) (H : Hp) (C : Addr) (cl : List (Str × Addr)) (fp : List Addr), PE (X.blk s H scope (compEnvC scope cl C X.env) fp) kx tk)
    (he : ∀ (s : Shared) (H : Hp) (C : Addr) (cl : List (Str × Addr)) (fp : List Addr), PE (X.blk s H scope (compEnvC scope cl C X.env) fp) vx tv) (hs : ∀ x, foldedSetIterable iter X.env x = pure x) :
    PS X (.Assign [.Name y py] (.DictComp kx vx [⟨tg, iter, ifs, 0⟩] scope pos) spos) (tAsg (tDcP P wi g tt tk tv (own.map (·.2))) (gName i)) := by
  refine ⟨fun pins s σ H D I h => ?_⟩
  rw [exec_Assign_Name_used _ _ _ _ hsw]
  refine wpAny_bind (wpAny_standAt (wpAny_bind ?_))
  show wpAny _ X.A (do let _ ← comprehension (.DictComp kx vx [⟨tg, iter, ifs, 0⟩] scope pos) scope X.env (firstIterPos [⟨tg, iter, ifs, 0⟩] pos) newDict false (eval iter X.env) (some (assign (.Name y py) X.env))) _ _ s
  refine wpAny_bind (thn (dcP_core (Q := fun x H1 => gName i x σ H1 D.nx) (Qf := fun _ s' => SP X pins D .next s') I hun hc hN hi ok hP hg ht hk he hs h fun L A s' m H' I' q hn f => ?_) fun _ s' hq => wpAny_pure (wpAny_pure hq))
  show wpAny _ _ (assign (.Name y py) X.env (.ref L)) _ _ _
  refine wpAny_assign_Name (store_ok2 (v := V.ref L) I' hN hy (.inl hyl) rfl (fun s2 I2 ⟨a, sb, ha⟩ => ?_) (.inr hyl))
  have apart : A ≠ a := fun e => by
    rcases ha with z | z
    · exact f.2.1 (e.trans z)
    · exact f.2.2.2.2.1 y a z e.symm
  exact ⟨m, hn.sameBut sb apart, fun h3 sb3 => ⟨_, H', I2.turned (t' := s2.toks) (fun b o hb e => (sb3.2 b hb).trans e) f.1 f.2.1 f.2.2.2.1 f.2.2.2.2.1 f.2.2.2.2.2, q⟩⟩
end
end TV
/-! dict comprehensions and displays: the rules -/
namespace TV
open PySem L2
section
variable {X : Cx} {G : Par} {W : WX} {C : Ctx} {R F H : Hp} {σ : St} {η : Env} {D : Ends} {tmp : List (V × T)} {ca : Nat → Addr} {k : Nat}
/-- a new dict's store, by trees -/
def rPt (ca : Nat → Addr) : V → V → V → Hp → (Hp → Prop) → Prop := fun o i v H Q => ∃ F ks ts key t an al n', Same F H ∧ Own ca F H (.dic true ks ts) o an ∧ CV ca F H key i ∧ Own ca F H t v al ∧ (∀ a, (an ++ al).count a ≤ 1) ∧ setT (.dic true ks ts) key t = some n' ∧
  ∀ H' an', (∀ a, a ∉ an → ∀ o, H a = some o → H' a = some o) → Own ca F H' n' o an' → (∀ a, an'.count a ≤ (an ++ al).count a) → Q H'
theorem puts_T : Puts X (rPt ca) := fun pins s σ H o y z Q I ⟨F, ks, ts, key, t, an, al, n', e, w, ck, wt, hc, hs, q⟩ => st_dput (iv := .none) I e w ck wt hc hs q
def dcF (C : Ctx) (ek ev : CE) (tg : FT) (ifs : List CE) (ws : List Nat) : T → Env → TV.R (Option (T × T) × Env) := fun t η => (match bindF tg t η with
        | some η₁ => (evTs C ifs η₁).bind fun y => if y.1 then (evL [(pu ek, fun η => evE C ek η), (pu ev, fun η => evE C ev η)] y.2).bind fun z => (match z.1 with
            | [ok, ov] => (match dr z.2 ok, keepO z.2 ov with
              | some key, some (u, η₂) => .ok (some (key, u), wipeE η₂ ws)
              | _, _ => .err)
            | _ => .err) else .ok (none, wipeE y.2 ws)
        | none => .err).cut
/-- a key and a value beside a container that is made -/
theorem pair_ia {ek ev : CE} {Q : V → V → Hp → Prop} (o : G.Ok R F H σ η tmp)
    (h : ∃ oo η1, evL [(pu ek, evE C ek), (pu ev, evE C ev)] η = .ok (oo, η1) ∧ ∃ ok ov key u η2, oo = [ok, ov] ∧ dr η1 ok = some key ∧ keepO η1 ov = some (u, η2) ∧
      ∀ F' H' y z, Same F F' → CV G.ca F' H' key y → G.Ok R F' H' σ η2 ((z, u) :: (tms [ok] [y] ++ tmp)) → Q y z H') :
    IE G W (pu ek) (evE C ek) σ H fun y H4 => IE G W (pu ev) (evE C ev) σ H4 fun z H5 => Q y z H5 := by
  obtain ⟨oo, η1, e, ok, ov, key, u, η2, rfl, hk, hv, q⟩ := h
  have h0 : IA G W [(pu ek, evE C ek), (pu ev, evE C ev)] σ H fun vs H5 => ∃ y z, vs = [y, z] ∧ Q y z H5 := by
    refine ⟨R, F, η, _, o, ?_⟩
    rw [e]
    intro F' H' vs s1 _ o1 pl
    obtain ⟨y, z, rfl, p1, p2⟩ := pls_two pl
    have ck : CV G.ca F' H' key y := dr_cv o1 (fun t e => by subst e; cases ov <;> simp [tms]) p1 hk
    have o2 : G.Ok R F' H' σ η1 (tms [ov] [z] ++ (tms [ok] [y] ++ tmp)) := by
      cases ok <;> cases ov <;> simpa [tms] using o1
    obtain ⟨F2, s2, o3, _⟩ := keep_ok o2 rfl (fun i p e _ => p2 i p e) hv
    have ck2 : CV G.ca F2 H' key y := by
      cases key with
      | non => exact ck
      | bl _ => exact ck
      | int _ => exact ck
      | str _ => exact ck
      | lst b ts => obtain ⟨a, vs, e1, h1, h2, h3⟩ := ck; exact ⟨a, vs, e1, h1, Views.mono s2 _ _ h2, h3⟩
      | tup ts => obtain ⟨a, vs, e1, h1, h2, h3⟩ := ck; exact ⟨a, vs, e1, s2 _ _ h1, Views.mono s2 _ _ h2, h3⟩
      | dic b ks ts => obtain ⟨a, vs, e1, h1, h2, h3⟩ := ck; exact ⟨a, vs, e1, h1, Views.mono s2 _ _ h2, h3⟩
      | obj b c ns ts => obtain ⟨a, dx, vs, e1, h1, hl, h2, h3⟩ := ck; exact ⟨a, dx, vs, e1, h1, hl, Views.mono s2 _ _ h2, h3⟩
    exact ⟨y, z, rfl, q F2 H' y z (s1.trans s2) ck2 o3⟩
  refine ie_mono (ia_cons h0) fun y H4 h1 => ie_mono (ia_cons h1) fun z H5 h2 => ?_
  obtain ⟨y', z', e', q'⟩ := ia_nil h2
  cases e'
  exact q'
theorem dc_turn {ek ev : CE} {ft : FT} {ifs : List CE} {ws : List Nat} {t n : T} {x p : V} {r : Option (T × T) × Env} {Q : V → V → Hp → Prop} {Qn : Hp → Prop} (hsl : ∀ i ∈ ft.slots, i ∈ ws) (o : TV.Ok G.ca [] R F H (L2.wipe σ ws) η ((p, n) :: tmp)) (hv : View G.ca F t x) (hf : t.fz = true)
    (h : dcF C ek ev ft ifs ws t η = .ok r)
    (hy : ∀ F' H' y z key u, r.1 = some (key, u) → Same F F' → (∃ σ2 η2 l, L2.wipe σ2 ws = L2.wipe σ ws ∧ wipeE η2 ws = r.2 ∧ CV G.ca F' H' key y ∧ TV.Ok G.ca [] R F' H' σ2 η2 ((z, u) :: (l ++ (p, n) :: tmp))) → Q y z H')
    (hn : ∀ F' H', r.1 = none → Same F F' → TV.Ok G.ca [] R F' H' (L2.wipe σ ws) r.2 ((p, n) :: tmp) → Qn H') :
    IG (G0 G) (C0 C) ft x (L2.wipe σ ws) H fun σ2 H2 => L2.wipe σ2 ws = L2.wipe σ ws ∧ IBs (G0 G) W0 (evTs C ifs) σ2 H2 fun b H3 => if b = true then IE (G0 G) W0 (pu ek) (evE C ek) σ2 H3 fun y H4 => IE (G0 G) W0 (pu ev) (evE C ev) σ2 H4 fun z H5 => Q y z H5 else Qn H3 := by
  unfold dcF at h
  have h := cut_err h
  split at h
  · rename_i η1 hb
    refine ⟨R, F, η, t, _, o, hv, hf, by simp [C0], η1, hb, fun σ2 on o2 => ?_⟩
    have hw : L2.wipe σ2 ws = L2.wipe σ ws := by rw [on ws hsl, wipe_idem]
    refine ⟨hw, R, F, η1, _, o2, ?_⟩
    cases e : evTs C ifs η1 with
    | err => rw [e] at h; cases h
    | exc c p η' => rw [e] at h; cases h
    | ok y =>
      obtain ⟨b, η2⟩ := y
      rw [e] at h
      simp only [TV.R.bind] at h
      intro F' H' s1 o3
      cases b with
      | false =>
        rw [if_neg Bool.false_ne_true] at h ⊢
        cases h
        refine hn F' H' rfl s1 ?_
        rw [← hw]
        exact Ok.wipe o3
      | true =>
        rw [if_pos rfl] at h ⊢
        refine pair_ia (G := G0 G) o3 ?_
        · cases e2 : evL [(pu ek, evE C ek), (pu ev, evE C ev)] η2 with
          | err => rw [e2] at h; cases h
          | exc c p η' => rw [e2] at h; cases h
          | ok z =>
            obtain ⟨oo, η3⟩ := z
            rw [e2] at h
            dsimp only at h
            split at h
            · rename_i ok ov
              split at h
              · rename_i key u η4 hk hkp
                cases h
                exact ⟨_, η3, rfl, ok, ov, key, u, η4, rfl, hk, hkp, fun F2 H2 y z s2 ck o4 => hy F2 H2 y z key u rfl (s1.trans s2) ⟨σ2, η4, _, hw, rfl, ck, o4⟩⟩
              · cases h
            · cases h
  · cases h
theorem dc_ie {ek ev : CE} {ft : FT} {it : IT} {ifs : List CE} {ws : List Nat} {Q : VK} (hsl : ∀ i ∈ ft.slots, i ∈ ws) (hnd : ws.Nodup) (h : IE G W false (evE C (.dc ek ev ft it ifs ws)) σ H Q) :
    tDcP (rPt G.ca) (II G W (evIt C it)) (IG (G0 G) (C0 C) ft) (IBs (G0 G) W0 (evTs C ifs)) (IE (G0 G) W0 (pu ek) (evE C ek)) (IE (G0 G) W0 (pu ev) (evE C ev)) ws σ H Q := by
  obtain ⟨R, F, η, tmp, o, h⟩ := h
  simp only [evE] at h
  refine ⟨R, F, η, tmp, o, ?_⟩
  cases e : evIt C it η with
  | err => rw [e] at h; exact h
  | exc c p η' => rw [e] at h; exact h
  | ok r =>
    obtain ⟨ts, η1⟩ := r
    rw [e] at h
    simp only [TV.R.bind] at h
    intro F0 H1 J s1 o1 w p hp
    split at h
    · rename_i hpl
      let cont : TV.R (T × Env) → TV.R (Opd × Env) := fun r => r.bind fun y => .ok (.v y.1, resE y.2 η1 ws)
      have h : EvP G W false R F0 H1 σ tmp (cont (dcL setT (dcF C ek ev ft ifs ws) ts (wipeE η1 ws) (.dic true [] []))) Q := EvP.shift h s1 H1
      have start : TV.Ok G.ca [] R F0 (upd H1 p (.dK [])) (L2.wipe σ ws) (wipeE η1 ws) ((.ref p, .dic true [] []) :: tmp) :=
        Ok.newOwn (Ok.wipe (Ok.nopn o1)) (as := [p]) (same_new hp) (by simp only [Own]; exact ⟨p, [], [], rfl, rfl, .inl ⟨[], rfl, rfl, upd_same⟩, by simp [Owns]⟩) (fun a => by simp only [List.count_cons, List.count_nil]; split <;> omega) (by simpa using hp)
      have keep : ∀ v ∈ ws, match η1[v]? with | some (some t) => t.fz = true ∧ ∃ u, σ[v]? = some (some u) ∧ View G.ca F0 t u | _ => True := fun v hv => by
        split
        · rename_i t ht
          have q := List.all_eq_true.mp hpl v hv
          rw [Bool.and_eq_true] at q
          have q1 := q.1
          unfold plainSl at q1
          rw [ht] at q1
          obtain ⟨u, as, hs, wo⟩ := Ok.slot o1 ht
          have fz := wo.fz_of (by simpa using q1)
          exact ⟨fz, u, hs, (Own.of_fz fz wo).2⟩
        · trivial
      refine ⟨fun i m H => m = ts.length - i ∧ i ≤ ts.length ∧ ∃ F η ks vs, Same F0 F ∧ TV.Ok G.ca [] R F H (L2.wipe σ ws) η ((.ref p, .dic true ks vs) :: tmp) ∧ EvP G W false R F H σ tmp (cont (dcL setT (dcF C ek ev ft ifs ws) (ts.drop i) η (.dic true ks vs))) Q,
        ⟨ts.length, by simp, Nat.zero_le _, F0, _, [], [], Same.refl F0, start, EvP.shift h (Same.refl F0) _⟩, fun i m H ⟨hm, hi, F, η, ks, vs, s2, o2, h2⟩ => ?_⟩
      by_cases hlt : i < ts.length
      · have ht : ts[i]? = some ts[i] := List.getElem?_eq_getElem hlt
        rw [List.drop_eq_getElem_cons hlt] at h2
        simp only [dcL] at h2
        refine .inr ⟨(w.go i H _ ht (s2.trans o2.same)).1, fun H' => ∃ F η ks vs, Same F0 F ∧ TV.Ok G.ca [] R F H' (L2.wipe σ ws) η ((.ref p, .dic true ks vs) :: tmp) ∧ EvP G W false R F H' σ tmp (cont (dcL setT (dcF C ek ev ft ifs ws) (ts.drop (i + 1)) η (.dic true ks vs))) Q, fun H' q => ⟨ts.length - (i + 1), by omega, rfl, hlt, q⟩, fun x H' hyl => ?_⟩
        obtain ⟨F2, s3, o3, hv, hf⟩ := walk_step w s2 o2 ht hyl
        have h3 := EvP.shift h2 s3 H'
        cases e3 : dcF C ek ev ft ifs ws ts[i] η with
        | err => rw [e3] at h3; exact False.elim h3
        | exc c pp η' =>
          exfalso
          unfold dcF at e3
          revert e3
          generalize (match bindF ft ts[i] η with
            | some η₁ => _
            | none => _ : TV.R (Option (T × T) × Env)) = g
          intro e3
          cases g <;> simp [TV.R.cut] at e3
        | ok r =>
          rw [e3] at h3
          simp only [TV.R.bind] at h3
          refine dc_turn (r := r) (Q := fun y z H5 => rPt G.ca (.ref p) y z H5 _) hsl o3 hv hf e3 (fun F' H2 y z key u hu s4 ⟨σ2, η2, l, hw, hη, ck, o4⟩ => ?_) fun F' H2 hno s4 o4 => ?_
          · rw [hu] at h3
            dsimp only at h3
            cases hs : setT (.dic true ks vs) key u with
            | none => rw [hs] at h3; exact False.elim h3
            | some n' =>
              rw [hs] at h3
              obtain ⟨an, al, wn, wt, hc, back⟩ := Ok.storeTmp (G := G0 G) o4
              refine ⟨F', ks, vs, key, u, an, al, n', o4.same, wn, ck, wt, hc, hs, fun H6 an' kp w' hle => ?_⟩
              have o5 := back H6 n' an' kp w' hle
              have o6 : TV.Ok G.ca [] R F' H6 (L2.wipe σ2 ws) (wipeE η2 ws) _ := Ok.wipe o5
              rw [hw, hη] at o6
              obtain ⟨ks', vs', rfl⟩ : ∃ ks' vs', n' = .dic true ks' vs' := by
                obtain ⟨_, _, ⟨j, _, e⟩ | ⟨_, e⟩⟩ := setT_dic hs
                · exact ⟨_, _, e⟩
                · exact ⟨_, _, e⟩
              exact ⟨F', r.2, ks', vs', (s2.trans s3).trans s4, o6, EvP.shift h3 s4 _⟩
          · rw [hno] at h3
            exact ⟨F', r.2, ks, vs, (s2.trans s3).trans s4, o4, EvP.shift h3 s4 _⟩
      · have e2 : i = ts.length := by omega
        subst e2
        rw [List.drop_length] at h2
        simp only [dcL, cont, TV.R.bind] at h2
        exact .inl ⟨w.stop H (s2.trans o2.same), h2 F H _ (Same.refl F) (fun z => by cases z) (Ok.repn (Ok.restore s2 hnd keep o2) o1.pins)⟩
    · exact False.elim h
/-- {key: value for tg in iter if ..} -/
theorem pe_dcI {tg kx vx iter : Expr} {ifs : List Expr} {scope : Scope} {own : List (Str × Nat)} {pos : Pos} {it : IT} {ft : FT} {ck cv : CE} {cifs : List CE} (hr : Room k X.A) (hc : X.calm = true) (hN : X.N.Nodup) (hi : PI X tg iter (II G W (evIt C it))) (ok : BlkOk X.N X.env.scope scope own)
    (hg : ∀ (s : Shared) (H : Hp) (A : Addr) (cl : List (Str × Addr)) (fp : List Addr), PG (X.blk s H scope (compEnvC scope cl A X.env) fp) tg (IG (G0 G) (C0 C) ft))
    (ht : ∀ (s : Shared) (H : Hp) (A : Addr) (cl : List (Str × Addr)) (fp : List Addr), PTs (X.blk s H scope (compEnvC scope cl A X.env) fp) ifs (IBs (G0 G) W0 (evTs C cifs)))
    (hk : ∀ (s : Shared) (H : Hp) (A : Addr) (cl : List (Str × Addr)) (fp : List Addr), PE (X.blk s H scope (compEnvC scope cl A X.env) fp) kx (IE (G0 G) W0 (pu ck) (evE C ck)))
    (he : ∀ (s : Shared) (H : Hp) (A : Addr) (cl : List (Str × Addr)) (fp : List Addr), PE (X.blk s H scope (compEnvC scope cl A X.env) fp) vx (IE (G0 G) W0 (pu cv) (evE C cv))) (hs : ∀ x, foldedSetIterable iter X.env x = pure x)
    (hsl : ∀ i ∈ ft.slots, i ∈ own.map (·.2)) (hnd : (own.map (·.2)).Nodup) :
    PE X (.DictComp kx vx [⟨tg, iter, ifs, 0⟩] scope pos) (IE G W false (evE C (.dc ck cv ft it cifs (own.map (·.2))))) :=
  pe_by (pe_dcP (P := rPt G.ca) (by have := hr.un; omega) hc hN hi ok (fun _ _ _ _ => puts_T) hg ht hk he hs) fun σ H Q h => dc_ie hsl hnd h
/-- name = {..}, the name a local -/
theorem ps_setDcI {i : Nat} {y : Str} {py : Pos} {tg kx vx iter : Expr} {ifs : List Expr} {scope : Scope} {own : List (Str × Nat)} {pos spos : Pos} {it : IT} {ft : FT} {ck cv : CE} {cifs : List CE} {fr : Bool} (hpn : ∀ j ∈ G.pn.map (·.1), C.pin.contains j = true) (hy : X.N[i]? = some y) (hyl : X.env.scope.names.lookup y = some .local)
    (hsw : swapsWith (.DictComp kx vx [⟨tg, iter, ifs, 0⟩] scope pos) (some (.Name y py)) spos.line X.env = pure true) (hr : Room k X.A) (hc : X.calm = true) (hN : X.N.Nodup) (hi : PI X tg iter (II G W (evIt C it))) (ok : BlkOk X.N X.env.scope scope own)
    (hg : ∀ (s : Shared) (H : Hp) (A : Addr) (cl : List (Str × Addr)) (fp : List Addr), PG (X.blk s H scope (compEnvC scope cl A X.env) fp) tg (IG (G0 G) (C0 C) ft))
    (ht : ∀ (s : Shared) (H : Hp) (A : Addr) (cl : List (Str × Addr)) (fp : List Addr), PTs (X.blk s H scope (compEnvC scope cl A X.env) fp) ifs (IBs (G0 G) W0 (evTs C cifs)))
    (hk : ∀ (s : Shared) (H : Hp) (A : Addr) (cl : List (Str × Addr)) (fp : List Addr), PE (X.blk s H scope (compEnvC scope cl A X.env) fp) kx (IE (G0 G) W0 (pu ck) (evE C ck)))
    (he : ∀ (s : Shared) (H : Hp) (A : Addr) (cl : List (Str × Addr)) (fp : List Addr), PE (X.blk s H scope (compEnvC scope cl A X.env) fp) vx (IE (G0 G) W0 (pu cv) (evE C cv))) (hs : ∀ x, foldedSetIterable iter X.env x = pure x)
    (hsl : ∀ i ∈ ft.slots, i ∈ own.map (·.2)) (hnd : (own.map (·.2)).Nodup) :
    PS X (.Assign [.Name y py] (.DictComp kx vx [⟨tg, iter, ifs, 0⟩] scope pos) spos) (IS G W (evS C (.asg fr (.s i) (.dc ck cv ft it cifs (own.map (·.2)))))) :=
  ps_by (ps_setDcP (P := rPt G.ca) hy hyl hsw (by have := hr.un; omega) hc hN hi ok (fun _ _ _ _ => puts_T) hg ht hk he hs) fun D σ H h => dc_ie hsl hnd (set_ie hpn h)
end
end TV
/-! a dict display of one pair -/
namespace TV
open PySem L2
section
variable {X : Cx} {G : Par} {W : WX} {C : Ctx} {R F H : Hp} {σ : St} {η : Env} {D : Ends} {tmp : List (V × T)} {ca : Nat → Addr} {k : Nat}
theorem Ok.frameIn {p : Addr} {u : HO} {pn : List (Nat × V)} (o : TV.Ok ca pn R F H σ η tmp) (hp : H p = none) : TV.Ok ca pn (upd R p u) F (upd H p u) σ η tmp := by
  obtain ⟨a1, a2, h1, h2, h3, h4⟩ := o.own
  have sm : Same H (upd H p u) := same_new hp
  refine ⟨o.same.trans sm, fun a y e => ?_, ⟨a1, a2, h1.frame (Same.refl F) fun a _ y e => sm a y e, h2.frame (Same.refl F) fun a _ y e => sm a y e, h3, fun a ha => ⟨(h4 a ha).1, ?_⟩⟩, o.pins⟩
  · by_cases z : a = p
    · subst z
      rw [upd_same] at e ⊢
      exact ⟨e, o.same.free hp⟩
    · rw [upd_ne z] at e ⊢
      exact o.fr a y e
  · have : ∃ y, H a = some y := by
      rcases List.mem_append.mp ha with m | m
      · exact h1.there a m
      · exact h2.there a m
    obtain ⟨y, e⟩ := this
    rw [upd_ne (fun z => by rw [z, hp] at e; cases e)]
    exact (h4 a ha).2
theorem Ok.frameOut {p : Addr} {u u' : HO} {pn : List (Nat × V)} {z : V} {t n : T} {l : List (V × T)} (hR : R p = none) (o : TV.Ok ca pn (upd R p u) F H σ η ((z, t) :: (l ++ tmp))) (hn : ∀ al, Own ca F (upd H p u') t z al → Own ca F (upd H p u') n (.ref p) (p :: al)) :
    H p = some u ∧ TV.Ok ca pn R F (upd H p u') σ η ((.ref p, n) :: tmp) := by
  obtain ⟨hpu, hpF⟩ := o.fr p u upd_same
  obtain ⟨a1, a2, h1, h2, h3, h4⟩ := o.own
  simp only [OkT] at h2
  obtain ⟨al, b2, rfl, wt, h2⟩ := h2
  obtain ⟨c1, c2, rfl, hl, hr⟩ := OkT.app.mp h2
  have ne : ∀ a ∈ a1 ++ (al ++ (c1 ++ c2)), a ≠ p := fun a ha z => by
    have := (h4 a ha).2
    rw [z, upd_same] at this
    cases this
  have fr : ∀ {m : List Addr}, (∀ a ∈ m, a ∈ a1 ++ (al ++ (c1 ++ c2))) → ∀ a ∈ m, ∀ y, H a = some y → upd H p u' a = some y := fun hm a ha y e => by
    rw [upd_ne (ne a (hm a ha))]; exact e
  refine ⟨hpu, fun a y e => ?_, fun a y e => ?_, ⟨a1, (p :: al) ++ c2, h1.frame (Same.refl F) (fr fun a ha => by simp [ha]), ?_, fun a => ?_, fun a ha => ?_⟩, o.pins⟩
  · rw [upd_ne (fun z => by rw [z, hpF] at e; cases e)]; exact o.same a y e
  · have ap : a ≠ p := fun z => by rw [z, hR] at e; cases e
    rw [upd_ne ap]
    exact o.fr a y (by rw [upd_ne ap]; exact e)
  · simp only [OkT]
    exact ⟨p :: al, c2, rfl, hn al (Own.frame (Same.refl F) _ _ _ (fr fun a ha => by simp [ha]) wt), hr.frame (Same.refl F) (fr fun a ha => by simp [ha])⟩
  · have q := h3 a
    simp only [List.count_append, List.cons_append, List.count_cons] at *
    by_cases e : (p == a) = true
    · have ea : p = a := by simpa using e
      subst ea
      have z : ∀ m : List Addr, (∀ a ∈ m, a ∈ a1 ++ (al ++ (c1 ++ c2))) → m.count p = 0 := fun m hm => List.count_eq_zero.mpr fun mm => ne p (hm p mm) rfl
      have e1 := z a1 fun a ha => by simp [ha]
      have e2 := z al fun a ha => by simp [ha]
      have e3 := z c2 fun a ha => by simp [ha]
      simp [e1, e2, e3]
    · simp only [e]
      simp
      omega
  · by_cases e : a = p
    · subst e
      exact ⟨hpF, hR⟩
    · have m : a ∈ a1 ++ (al ++ (c1 ++ c2)) := by
        simp only [List.cons_append, List.mem_append, List.mem_cons] at ha ⊢
        rcases ha with z | z | z | z
        · exact .inl z
        · exact absurd z e
        · exact .inr (.inl z)
        · exact .inr (.inr (.inr z))
      obtain ⟨q1, q2⟩ := h4 a m
      rw [upd_ne e] at q2
      exact ⟨q1, q2⟩
theorem pe_dic1I {kx vx : Expr} {ck cv : CE} {pos : Pos} (hk : PE X kx (IE G W (pu ck) (evE C ck))) (hv : PE X vx (IE G W (pu cv) (evE C cv))) : PE X (.Dict [some kx] [vx] pos) (IE G W false (evE C (.dic1 ck cv))) :=
  pe_by (pe_disp (pps_cons hk hv pps_nil) rfl rfl (by simp) (by simp)) fun σ H Q h => by
    obtain ⟨R, F, η, tmp, o, h⟩ := h
    simp only [evE] at h
    intro p hp
    have o1 := Ok.frameIn (u := .dK []) o hp
    have hR : R p = none := by
      cases e : R p with
      | none => rfl
      | some y => rw [(o.fr p y e).1] at hp; cases hp
    cases e : evL [(pu ck, evE C ck), (pu cv, evE C cv)] η with
    | err => rw [e] at h; exact False.elim h
    | exc c p η' => rw [e] at h; exact False.elim h
    | ok r =>
      obtain ⟨os, η1⟩ := r
      rw [e] at h
      simp only [TV.R.cut, TV.R.bind] at h
      split at h
      · rename_i ok ov
        split at h
        · rename_i key u η2 hkey hval
          split at h
          · rename_i hkk
            rw [Bool.and_eq_true] at hkk
            refine pair_ia o1 ⟨_, η1, e, ok, ov, key, u, η2, rfl, hkey, hval, fun F' H' y z s1 ck o2 => ?_⟩
            rcases keyOk_of hkk.1 with ⟨kk, rfl, _⟩ | ⟨l, rfl, ht⟩
            · obtain rfl := cv_key ck
              obtain ⟨hpu, o3⟩ := Ok.frameOut (u' := .dK [(kk, z)]) (n := .dic true [keyT kk] [u]) hR o2 fun al w => by
                simp only [Own]
                exact ⟨p, [z], al, rfl, rfl, .inl ⟨[kk], rfl, rfl, by rw [upd_same]; rfl⟩, Owns.one w⟩
              refine ⟨hpu, [(kk, z)], rfl, by simp, ?_⟩
              exact h F' _ _ s1 (fun z => by cases z) o3
            · rw [ht] at hkk
              simp at hkk
          · exact False.elim h
        · exact False.elim h
      · exact False.elim h
end
end TV
/-! the text to the core language -/
namespace TV
open PySem L2
/-- what is known where a piece of text stands -/
structure SC where
  N : List Str
  sc : Scope
  blk : Option Scope
  fi : Str → Option (Nat × Nat)
  ki : Str → Option (Nat × Nat)
  kc : Str → Option T
  eq : Pos → Option Nat
  pin : List Nat
  fl : List Str
def nIx (l : List Str) (x : Str) : Option Nat := l.findIdx? (· == x)
def SC.kind (S : SC) (x : Str) : Option NameKind := S.sc.names.lookup x
def visB (S : SC) (x : Str) : Bool := (match S.kind x with | some .local | some .cell | some .free => true | _ => false) && !(x == ("__debug__" : Str)) && !(x == ("__classdict__" : Str))
def locB (S : SC) (x : Str) : Bool := match S.kind x, S.blk with
  | some .local, _ => true
  | some .cell, none => true
  | some .cell, some s => s.names.lookup x == some .cell
  | _, _ => false
def glB (S : SC) (x : Str) : Bool := S.kind x == some .globalImplicit && !(x == ("__debug__" : Str)) && !(x == ("__name__" : Str))
def notStar : Expr → Bool
  | .Starred _ _ => false
  | _ => true
def noCall0 : Expr → Bool
  | .Call (.Name _ _) [] [] _ => false
  | _ => true
def noSet : Expr → Bool
  | .Set _ _ _ => false
  | _ => true
def noComp : Expr → Bool
  | .ListComp _ _ _ _ => false | .SetComp _ _ _ _ => false | .DictComp _ _ _ _ _ => false
  | _ => true
/-- a test that is the truth of a value -/
def leafB : Expr → Bool
  | .UnaryOp _ _ _ => false | .BoolOp _ _ _ => false | .IfExp _ _ _ _ => false | .Compare _ _ _ _ => false
  | _ => true
def noTup : Expr → Bool
  | .Tuple _ _ _ => false
  | _ => true
def noSlice : Expr → Bool
  | .Slice _ _ _ _ => false
  | _ => true
def bfOf (x : Str) : Option BF :=
  if x == ("len" : Str) then some .len else if x == ("sorted" : Str) then some .sorted else if x == ("tuple" : Str) then some .tuple else if x == ("list" : Str) then some .list
  else if x == ("min" : Str) then some .min else if x == ("sum" : Str) then some .sum else if x == ("all" : Str) then some .all else if x == ("any" : Str) then some .any
  else if x == ("abs" : Str) then some .abs else if x == ("int" : Str) then some .int else none
def bmOf (x : Str) : Option BM :=
  if x == ("append" : Str) then some .append else if x == ("pop" : Str) then some .pop else if x == ("extend" : Str) then some .extend else if x == ("remove" : Str) then some .remove
  else if x == ("index" : Str) then some .index else if x == ("count" : Str) then some .count else if x == ("get" : Str) then some .get else none
def tyNOf (S : SC) (x : Str) : Option TyN :=
  match S.ki x with
  | some c => some (.cls c.1)
  | none => if x == ("int" : Str) then some .int else if x == ("bool" : Str) then some .bool else if x == ("tuple" : Str) then some .tuple else if x == ("list" : Str) then some .list
    else if x == ("dict" : Str) then some .dict else if x == ("str" : Str) then some .str else none
def tyE (S : SC) : Expr → Option TyN
  | .Name x _ => if glB S x then tyNOf S x else none
  | _ => none
def tyEs (S : SC) : List Expr → Option (List TyN)
  | [] => some []
  | e :: es => match tyE S e, tyEs S es with
    | some n, some ns => some (n :: ns)
    | _, _ => none
mutual
def cF (S : SC) : Expr → Option FT
  | .Name x _ => if locB S x then (match nIx S.N x with | some i => some (.s i) | none => none) else none
  | .Tuple es _ _ => match cFs S es with | some fs => some (.t fs) | none => none
  | _ => none
def cFs (S : SC) : List Expr → Option (List FT)
  | [] => some []
  | e :: es => match cF S e, cFs S es with
    | some f, some fs => if notStar e then some (f :: fs) else none
    | _, _ => none
end
/-- a block's own names, with their slots -/
def ownOf (S : SC) (scope : Scope) : List (Str × Nat) := scope.names.filterMap fun y => match y.2 with
  | .local | .cell => (nIx S.N y.1).map fun i => (y.1, i)
  | _ => none
def SC.inner (S : SC) (scope : Scope) : SC := { S with sc := relS scope S.sc, blk := some scope, pin := [] }
/-- list(range(a)), tuple(range(a)) -/
def rgArg (S : SC) (b : BF) : List Expr → Option (BF × Expr)
  | [.Call (.Name y _) [a] [] _] => if glB S y && y == ("range" : Str) && notStar a then (match b with | .list => some (.lrg, a) | .tuple => some (.trg, a) | _ => none) else none
  | _ => none
def fewB (es : List Expr) : Bool := es.all notStar && decide (es.length < 30)
mutual
/-- expressions -/
def cE : Nat → SC → Expr → Option CE
  | 0, _, _ => none
  | n + 1, S, e => match e with
    | .Name x _ => if visB S x then (nIx S.N x).map .slot else if glB S x then (S.kc x).map .cst else none
    | .Constant (.int i) _ _ => some (.cst (.int i))
    | .Constant (.bool b) _ _ => some (.cst (.bl b))
    | .Constant .none _ _ => some (.cst .non)
    | .Constant (.str s) _ _ => some (.cst (.str s))
    | .Tuple es _ _ => if es.length ≤ 1000 then (cL n S es).map .tup else none
    | .List es _ => if es.length ≤ 1000 then (cL n S es).map .lst else none
    | .Dict [] [] _ => some .dic0
    | .Dict [some k] [v] _ => (cE n S k).bind fun ck => (cE n S v).map fun cv => .dic1 ck cv
    | .BinOp a op b _ => (cE n S a).bind fun ca => (cE n S b).map fun cb => .bin op ca cb
    | .UnaryOp .USub a _ => (cE n S a).map fun ca => .un .USub ca
    | .UnaryOp .Not a _ => (cE n S a).map fun ca => .not_ ca
    | .BoolOp .And [a, b] _ => (cE n S a).bind fun ca => (cE n S b).map fun cb => .and_ ca cb
    | .BoolOp .And [a, b, c] _ => (cE n S a).bind fun ca => (cE n S b).bind fun cb => (cE n S c).map fun cc => .and_ ca (.and_ cb cc)
    | .BoolOp .Or [a, b] _ => (cE n S a).bind fun ca => (cE n S b).map fun cb => .or_ ca cb
    | .BoolOp .Or [a, b, c] _ => (cE n S a).bind fun ca => (cE n S b).bind fun cb => (cE n S c).map fun cc => .or_ ca (.or_ cb cc)
    | .Compare a [op] [b] pos => if behindInMarks op b then none else (cE n S a).bind fun ca => (cE n S b).bind fun cb => match S.eq pos with
      | some c => if op == .Eq || op == .NotEq then some (.ocmp op c ca cb) else none
      | none => some (.cmp op ca cb)
    | .Compare a [o1, o2] [b, c] _ => if behindInMarks o2 c then none else (cE n S a).bind fun ca => (cE n S b).bind fun cb => (cE n S c).map fun cc => .chain o1 o2 ca cb cc
    | .IfExp t a b _ => (cT n S t).bind fun ct => (cE n S a).bind fun ca => (cE n S b).map fun cb => .ife ct ca cb
    | .Subscript a (.Slice none none (some st) _) _ => (cE n S a).bind fun ca => (cE n S st).map fun cs => .rev ca cs
    | .Subscript a (.Slice lo hi none _) _ => (cE n S a).bind fun ca => (cP n S lo).bind fun cl => (cP n S hi).map fun ch => .slc ca cl ch
    | .Subscript a i _ => if noSlice i then (cE n S a).bind fun ca => (cE n S i).map fun ci => .idx ca ci else none
    | .Attribute o f _ => if noCall0 o && S.fl.contains f then (cE n S o).map fun co => .att co f else none
    | .Call (.Name x _) (e :: es) [] _ => cCall n S x (e :: es)
    | .Call (.Attribute o m apos) es [] cpos => if noCall0 o && fewB es && apos.endLine == cpos.line then (bmOf m).bind fun b => (cE n S o).bind fun co => (cL n S es).map fun ces => .bm b co ces else none
    | .ListComp elt [⟨tg, iter, ifs, 0⟩] scope _ => (cI n S tg iter).bind fun it => if noSet iter && blkC S.N S.sc scope (ownOf S scope) && ((ownOf S scope).map (·.2)).Nodup && decide (ifs.length ≤ 1) then (cF (S.inner scope) tg).bind fun ft =>
        if ft.slots.all ((ownOf S scope).map (·.2)).contains then (cTs n (S.inner scope) ifs).bind fun cifs => (cE n (S.inner scope) elt).map fun ce => .lc ce ft it cifs ((ownOf S scope).map (·.2)) else none else none
    | .DictComp k v [⟨tg, iter, ifs, 0⟩] scope _ => (cI n S tg iter).bind fun it => if noSet iter && blkC S.N S.sc scope (ownOf S scope) && ((ownOf S scope).map (·.2)).Nodup && decide (ifs.length ≤ 1) then (cF (S.inner scope) tg).bind fun ft =>
        if ft.slots.all ((ownOf S scope).map (·.2)).contains then (cTs n (S.inner scope) ifs).bind fun cifs => (cE n (S.inner scope) k).bind fun ck => (cE n (S.inner scope) v).map fun cv => .dc ck cv ft it cifs ((ownOf S scope).map (·.2)) else none else none
    | _ => none
/-- a call of a name -/
def cCall : Nat → SC → Str → List Expr → Option CE
  | 0, _, _, _ => none
  | n + 1, S, x, es => if glB S x && es.all notStar then (match S.fi x, S.ki x, bfOf x with
    | some j, _, _ => if es.length = j.2 then (cL n S es).map fun ces => .call j.1 ces else none
    | none, some c, _ => if es.length + 1 = c.2 then (cL n S es).map fun ces => .mk c.1 ces else none
    | none, none, some b => (match rgArg S b es with
      | some (b', a) => (cE n S a).map fun ca => .bf b' [ca]
      | none => (cL n S es).map fun ces => .bf b ces)
    | none, none, none => (match es with
      | [e, .Tuple ts _ _] => if x == ("isinstance" : Str) && ts.all notStar && decide (ts.length ≤ 1000) then (cE n S e).bind fun ce => (tyEs S ts).map fun ns => .isi ce ns else none
      | [e, t] => if x == ("isinstance" : Str) then (cE n S e).bind fun ce => (tyE S t).map fun ty => .isi ce [ty] else none
      | _ => none)) else none
def cL : Nat → SC → List Expr → Option (List CE)
  | 0, _, _ => none
  | n + 1, S, es => match es with
    | [] => some []
    | e :: es => if notStar e then (cE n S e).bind fun ce => (cL n S es).map fun ces => ce :: ces else none
/-- a part of a slice -/
def cP : Nat → SC → Option Expr → Option CE
  | 0, _, _ => none
  | n + 1, S, o => match o with
    | none => some .omit
    | some e => cE n S e
/-- tests -/
def cT : Nat → SC → Expr → Option CE
  | 0, _, _ => none
  | n + 1, S, e => match e with
    | .BoolOp .And [a] _ => cT n S a
    | .BoolOp .And (a :: b :: r) pos => (cT n S a).bind fun ca => (cT n S (.BoolOp .And (b :: r) pos)).map fun cb => .tand ca cb
    | .BoolOp .Or [a] _ => cT n S a
    | .BoolOp .Or (a :: b :: r) pos => (cT n S a).bind fun ca => (cT n S (.BoolOp .Or (b :: r) pos)).map fun cb => .tor ca cb
    | .UnaryOp .Not a _ => (cT n S a).map fun ca => .tnot ca
    | .Compare a [op] [b] pos => cE n S (.Compare a [op] [b] pos)
    | .Compare a [o1, o2] [b, c] pos => cE n S (.Compare a [o1, o2] [b, c] pos)
    | e => if leafB e then cE n S e else none
def cTs : Nat → SC → List Expr → Option (List CE)
  | 0, _, _ => none
  | n + 1, S, es => match es with
    | [] => some []
    | e :: es => (cT n S e).bind fun ce => (cTs n S es).map fun ces => ce :: ces
/-- what is walked -/
def cI : Nat → SC → Expr → Expr → Option IT
  | 0, _, _, _ => none
  | n + 1, S, tg, e => match e with
    | .Call (.Name x _) es [] _ =>
      if glB S x && x == ("range" : Str) && es.all notStar && decide (1 ≤ es.length ∧ es.length ≤ 2) then (cL n S es).map .rng
      else if glB S x && x == ("enumerate" : Str) then (match tg, es with | .Tuple _ _ _, [a] => (cL n S [a]).bind fun cs => (match cs with | [ca] => some (.enum ca) | _ => none) | _, _ => none)
      else if glB S x && x == ("zip" : Str) then (match tg, es with | .Tuple _ _ _, [a, b] => (cL n S [a, b]).bind fun cs => (match cs with | [ca, cb] => some (.zip ca cb) | _ => none) | _, _ => none)
      else (cE n S e).map .val
    | e => (cE n S e).map .val
end
/-- the built-in names that the text may call -/
def bltNames : List Str := ["len", "sorted", "tuple", "list", "min", "sum", "all", "any", "abs", "int", "range", "enumerate", "zip", "isinstance", "bool", "dict", "str"]
/-- what stands around a piece of text is as S says -/
structure XOk (k : Nat) (X : Cx) (G : Par) (W : WX) (C : Ctx) (S : SC) : Prop where
  N : X.N = S.N
  nd : S.N.Nodup
  scope : X.env.scope = S.sc
  calm : X.calm = true
  fn : ∀ x, locB S x = true → X.fn x = true ∨ X.env.scope.names.lookup x = some .local
  room : Room (k + 1) X.A
  blt : ∀ x ∈ bltNames, X.mg x = none
  hx : ∀ σ, PassesAt (L2.CX X.prog X.w) X σ (WE W σ)
  pins : ∀ j ∈ G.pn.map (·.1), C.pin.contains j = true
  fns : ∀ x j, S.fi x = some j → ∃ f fd ps, FnOk X.prog X.w X.K X.mg X.base (L2.CX X.prog X.w) k f fd ps (spF G (C.io j.1) (C.fs j.1) ps.length) ∧ ps.length = j.2 ∧ X.mg x = some (.ref f) ∧ PySem.W.keepIn X.K (.ref f) = true ∧ Binds X.K fd ps []
  mks : ∀ x c, S.ki x = some c → X.mg x = some (.ref (G.ca c.1)) ∧ ∃ f fd ps j io, Mk X.K (G.ca c.1) f ∧ FnOk X.prog X.w X.K X.mg X.base (L2.CX X.prog X.w) k f fd ps (spF G (true :: io) (C.fs j) ps.length) ∧ ps.length = c.2 ∧ Binds X.K fd ps [] ∧ C.init c.1 = some j ∧ C.io j = true :: io
  kcs : ∀ x t, S.kc x = some t → t.fz = true ∧ ∃ v u, X.mg x = some u ∧ L2.RelV v u ∧ ∀ F, View G.ca F t v
  clI : ∀ c, C.cl.contains c = true → ClsI X.K (G.ca c)
  kit : ∀ a b, tyIn C.cl a = true → tyIn C.cl b = true → PySem.W.kitOne X.K (tyV G a) (tyV G b) = some (kitN a b)
  att : ∀ c f, C.cl.contains c = true → S.fl.contains f = true → Cls X.K (G.ca c) ∧ NoAttr X.K (G.ca c) f
  eqs : ∀ p c, S.eq p = some c → ∃ j f fd ps, FnOk X.prog X.w X.K X.mg X.base (L2.CX X.prog X.w) k f fd ps (spF G (C.io j) (C.fs j) 2) ∧ PySem.W.findIn X.K (.ref (G.ca c)) "__eq__" = some (some (.ref f)) ∧ PySem.W.findIn X.K (.ref (G.ca c)) "__ne__" = some (some (.builtin "object.__ne__")) ∧
    PySem.W.mroIn X.K (G.ca c) (.type "object") = some true ∧ PySem.W.isFn X.K (.ref f) = true ∧ Binds X.K fd ps [] ∧ C.meth c "__eq__" = some j
section
variable {k : Nat} {X : Cx} {G : Par} {W : WX} {C : Ctx} {S : SC}
theorem pass_W0 {X : Cx} : ∀ σ, PassesAt (L2.CX X.prog X.w) X σ (WE W0 σ) := fun σ _ _ _ _ _ _ h => by
  obtain ⟨_, _, _, _, _, _, _, _, _, _, _, _, z⟩ := h
  exact z.elim
theorem XOk.inner (o : XOk k X G W C S) (scope : Scope) (s : Shared) (H : Hp) (A : Addr) (cl : List (Str × Addr)) (fp : List Addr) : XOk k (X.blk s H scope (compEnvC scope cl A X.env) fp) (G0 G) W0 C (S.inner scope) where
  N := o.N
  nd := o.nd
  scope := by show relS scope X.env.scope = relS scope S.sc; rw [o.scope]
  calm := o.calm
  fn := fun x h => by
    unfold locB at h
    have hs : (compEnvC scope cl A X.env).scope = relS scope S.sc := by show relS scope X.env.scope = _; rw [o.scope]
    split at h
    · rename_i hk
      right
      show (compEnvC scope cl A X.env).scope.names.lookup x = _
      rw [hs]
      exact hk
    · rename_i h1 h2
      cases h2
    · rename_i s' h1 h2
      cases h2
      exact .inl h
    · cases h
  room := o.room
  blt := o.blt
  hx := pass_W0
  pins := by simp [G0]
  fns := o.fns
  mks := o.mks
  kcs := o.kcs
  clI := o.clI
  kit := o.kit
  att := o.att
  eqs := o.eqs
/-! ### side conditions -/
theorem star_cons {e : Expr} (h : notStar e = true) (es : List Expr) (env : PySem.Env) : starEach (e :: es) env = (false, eval e env) :: starEach es env := by
  cases e <;> first | rfl | simp [notStar] at h
theorem star_plain : ∀ {es : List Expr} (pos : Pos) (env : PySem.Env), es.all notStar = true → (backTo pos (starEach es env)).any (·.1) = false
  | [], _, _, _ => rfl
  | e :: es, pos, env, h => by
    simp only [List.all_cons, Bool.and_eq_true] at h
    rw [star_cons h.1]
    have := star_plain pos env h.2
    simpa [backTo] using this
theorem abase {o : Expr} (h : noCall0 o = true) (m : Str) (env : PySem.Env) (w : Sem Value) : attributeBase o m env w = w := by
  unfold attributeBase
  split
  · simp [noCall0] at h
  · rfl
theorem fold_set {e : Expr} (h : noSet e = true) (env : PySem.Env) (x : Value) : foldedSetIterable e env x = pure x := by
  unfold foldedSetIterable
  split
  · simp [noSet] at h
  · rfl
theorem vis_of (o : XOk k X G W C S) {x : Str} (h : visB S x = true) : Vis X.env.scope x ∧ (x == ("__debug__" : Str)) = false ∧ (x == ("__classdict__" : Str)) = false := by
  simp only [visB, Bool.and_eq_true, Bool.not_eq_true'] at h
  refine ⟨?_, h.1.2, h.2⟩
  unfold Vis
  rw [o.scope]
  have := h.1.1
  unfold SC.kind at this
  split at this
  · rename_i e; exact .inl e
  · rename_i e; exact .inr (.inl e)
  · rename_i e; exact .inr (.inr e)
  · cases this
theorem gl_of (o : XOk k X G W C S) {x : Str} (h : glB S x = true) : Gl X x ∧ (x == ("__debug__" : Str)) = false ∧ x ≠ "__name__" := by
  simp only [glB, Bool.and_eq_true, Bool.not_eq_true', beq_iff_eq] at h
  refine ⟨?_, h.1.2, fun e => ?_⟩
  · show X.env.scope.names.lookup x = some .globalImplicit
    rw [o.scope]
    exact h.1.1
  · subst e
    have := h.2
    simp at this
theorem nIx_at {l : List Str} {x : Str} {i : Nat} (h : nIx l x = some i) : l[i]? = some x := by
  unfold nIx at h
  obtain ⟨h1, h2, _⟩ := List.findIdx?_eq_some_iff_getElem.mp h
  rw [List.getElem?_eq_getElem h1]
  simpa using h2
end
end TV
/-! the translation is right: expressions -/
namespace TV
open PySem L2
def SdE (n : Nat) : Prop := ∀ (k : Nat) (X : Cx) (G : Par) (W : WX) (C : Ctx) (S : SC) (e : Expr) (ce : CE), XOk k X G W C S → cE n S e = some ce → PE X e (IE G W (pu ce) (evE C ce))
def SdL (n : Nat) : Prop := ∀ (k : Nat) (X : Cx) (G : Par) (W : WX) (C : Ctx) (S : SC) (es : List Expr) (ces : List CE), XOk k X G W C S → cL n S es = some ces → PA X es (IA G W (clos C ces)) ∧ es.all notStar = true ∧ ces.length = es.length
def SdP (n : Nat) : Prop := ∀ (k : Nat) (X : Cx) (G : Par) (W : WX) (C : Ctx) (S : SC) (e : Option Expr) (ce : CE), XOk k X G W C S → cP n S e = some ce → PV X e (IE G W (pu ce) (evE C ce))
def SdT (n : Nat) : Prop := ∀ (k : Nat) (X : Cx) (G : Par) (W : WX) (C : Ctx) (S : SC) (e : Expr) (ce : CE), XOk k X G W C S → cT n S e = some ce → PT X e (IB G W (evE C ce))
def SdTs (n : Nat) : Prop := ∀ (k : Nat) (X : Cx) (G : Par) (W : WX) (C : Ctx) (S : SC) (es : List Expr) (ces : List CE), XOk k X G W C S → es.length ≤ 1 → cTs n S es = some ces → PTs X es (IBs G W (evTs C ces))
def SdI (n : Nat) : Prop := ∀ (k : Nat) (X : Cx) (G : Par) (W : WX) (C : Ctx) (S : SC) (tg e : Expr) (it : IT), XOk k X G W C S → cI n S tg e = some it → PI X tg e (II G W (evIt C it))
section
variable {k n : Nat} {X : Cx} {G : Par} {W : WX} {C : Ctx} {S : SC}
theorem pv_byI {o : Option Expr} {t t' : TE} (h : PV X o t) (kk : ∀ σ H Q, t' σ H Q → t σ H Q) : PV X o t' := ⟨fun pins s σ H Q I q => h.run pins s σ H Q I (kk σ H Q q)⟩
theorem ok_L (hE : SdE n) (hL : SdL n) : SdL (n + 1) := by
  intro k X G W C S es ces o h
  simp only [cL] at h
  split at h
  · cases h
    exact ⟨pa_nilI, rfl, rfl⟩
  · rename_i e es
    split at h
    · rename_i hs
      obtain ⟨ce, h1, h⟩ := Option.bind_eq_some_iff.mp h
      obtain ⟨ces', h2, rfl⟩ := Option.map_eq_some_iff.mp h
      obtain ⟨p1, p2, p3⟩ := hL k X G W C S es ces' o h2
      exact ⟨pa_consI (f := (pu ce, evE C ce)) (hE k X G W C S e ce o h1) p1 (star_cons hs es X.env), by simp [hs, p2], by simp [p3]⟩
    · cases h
theorem ok_P (hE : SdE n) : SdP (n + 1) := by
  intro k X G W C S e ce o h
  simp only [cP] at h
  split at h
  · cases h
    refine pv_byI pv_none fun σ H Q ⟨R, F, η, tmp, ok, q⟩ => ?_
    simp only [evE] at q
    exact q F H .non (Same.refl F) (fun _ => Same.refl H) (Ok.push ok (by simp [View]) rfl)
  · exact pv_some (hE k X G W C S _ ce o h)
theorem leaf_is {e : Expr} (h : leafB e = true) (env : PySem.Env) (whole : Sem Value) : isTrue e env whole = (do let v ← whole; standAt e.pos; holding [v] (truthy v)) := by
  cases e <;> first | rfl | simp [leafB] at h
theorem ok_Ts (hT : SdT n) : SdTs (n + 1) := by
  intro k X G W C S es ces o hl h
  simp only [cTs] at h
  split at h
  · cases h; exact pts_nilI
  · rename_i e es
    obtain ⟨ce, h1, h⟩ := Option.bind_eq_some_iff.mp h
    obtain ⟨ces', h2, rfl⟩ := Option.map_eq_some_iff.mp h
    have : es = [] := by cases es with | nil => rfl | cons _ _ => simp at hl
    subst this
    have : ces' = [] := by
      cases n with
      | zero => simp [cTs] at h2
      | succ n => simp only [cTs] at h2; cases h2; rfl
    subst this
    exact pts_oneI (hT k X G W C S e ce o h1)
/-- targets -/
theorem each_len : ∀ {es : List Expr} (env : PySem.Env), es.all notStar = true → (assignEach es env).length = es.length ∧ (assignEach es env).findIdx? (·.1) = none
  | [], _, _ => ⟨rfl, rfl⟩
  | e :: es, env, h => by
    simp only [List.all_cons, Bool.and_eq_true] at h
    have e1 : assignEach (e :: es) env = (false, assign e env) :: assignEach es env := by cases e <;> first | rfl | simp [notStar] at h
    obtain ⟨h1, h2⟩ := each_len env h.2
    rw [e1]
    exact ⟨by simp [h1], by simp [List.findIdx?_cons, h2]⟩
theorem loc_of (o : XOk k X G W C S) {x : Str} (h : locB S x = true) : L2.Loc X.env.scope x ∧ (X.fn x = true ∨ X.env.scope.names.lookup x = some .local) := by
  refine ⟨?_, o.fn x h⟩
  unfold L2.Loc
  rw [o.scope]
  unfold locB SC.kind at h
  split at h
  · rename_i e; exact .inl e
  · rename_i e _; exact .inr e
  · rename_i e _; exact .inr e
  · cases h
mutual
theorem ok_F (o : XOk k X G W C S) {C2 : Ctx} (hpn : ∀ j ∈ G.pn.map (·.1), C2.pin.contains j = true) : ∀ (e : Expr) (ft : FT), cF S e = some ft → PG X e (IG G C2 ft)
  | .Name x _, ft, h => by
    simp only [cF] at h
    split at h
    · rename_i hl
      split at h
      · rename_i i hi
        cases h
        obtain ⟨h1, h2⟩ := loc_of o hl
        exact pg_nameI (by rw [o.N]; exact o.nd) (by rw [o.N]; exact nIx_at hi) h1 h2 hpn
      · cases h
    · cases h
  | .Tuple es _ _, ft, h => by
    simp only [cF] at h
    split at h
    · rename_i fs hf
      cases h
      obtain ⟨p, hs, hl⟩ := ok_Fs o hpn es fs hf
      obtain ⟨h1, h2⟩ := each_len X.env hs
      exact pg_tupI o.calm p (by rw [h1, hl]) h2
    · cases h
  | .BoolOp _ _ _, _, h => by simp [cF] at h
  | .NamedExpr _ _ _, _, h => by simp [cF] at h
  | .BinOp _ _ _ _, _, h => by simp [cF] at h
  | .UnaryOp _ _ _, _, h => by simp [cF] at h
  | .Lambda _ _ _ _, _, h => by simp [cF] at h
  | .IfExp _ _ _ _, _, h => by simp [cF] at h
  | .Dict _ _ _, _, h => by simp [cF] at h
  | .Set _ _ _, _, h => by simp [cF] at h
  | .ListComp _ _ _ _, _, h => by simp [cF] at h
  | .SetComp _ _ _ _, _, h => by simp [cF] at h
  | .DictComp _ _ _ _ _, _, h => by simp [cF] at h
  | .GeneratorExp _ _ _ _, _, h => by simp [cF] at h
  | .Await _ _, _, h => by simp [cF] at h
  | .Yield _ _, _, h => by simp [cF] at h
  | .YieldFrom _ _, _, h => by simp [cF] at h
  | .Compare _ _ _ _, _, h => by simp [cF] at h
  | .Call _ _ _ _, _, h => by simp [cF] at h
  | .FormattedValue _ _ _ _, _, h => by simp [cF] at h
  | .JoinedStr _ _, _, h => by simp [cF] at h
  | .Constant _ _ _, _, h => by simp [cF] at h
  | .Attribute _ _ _, _, h => by simp [cF] at h
  | .Subscript _ _ _, _, h => by simp [cF] at h
  | .Starred _ _, _, h => by simp [cF] at h
  | .List _ _, _, h => by simp [cF] at h
  | .Slice _ _ _ _, _, h => by simp [cF] at h
theorem ok_Fs (o : XOk k X G W C S) {C2 : Ctx} (hpn : ∀ j ∈ G.pn.map (·.1), C2.pin.contains j = true) : ∀ (es : List Expr) (fs : List FT), cFs S es = some fs → PGs X es (IGs G C2 fs) ∧ es.all notStar = true ∧ fs.length = es.length
  | [], fs, h => by simp only [cFs] at h; cases h; exact ⟨pgs_nilI, rfl, rfl⟩
  | e :: es, fs, h => by
    simp only [cFs] at h
    split at h
    · rename_i f fs' h1 h2
      split at h
      · rename_i hs
        cases h
        obtain ⟨p, q, l⟩ := ok_Fs o hpn es fs' h2
        have e1 : assignEach (e :: es) X.env = (false, assign e X.env) :: assignEach es X.env := by cases e <;> first | rfl | simp [notStar] at hs
        exact ⟨pgs_consI (ok_F o hpn e f h1) p (by rw [e1]; rfl), by simp [hs, q], by simp [l]⟩
      · cases h
    · cases h
end
end
end TV
/-! the translation is right: tests, walks, expressions -/
namespace TV
open PySem L2
section
variable {k n : Nat} {X : Cx} {G : Par} {W : WX} {C : Ctx} {S : SC}
theorem blt_of (o : XOk k X G W C S) {x : Str} (h : x ∈ bltNames) : X.mg x = none := o.blt x h
/-- comparisons as tests -/
theorem ok_cmpT (hE : SdE n) {a b : Expr} {op : CmpOp} {pos : Pos} {ce : CE} (o : XOk k X G W C S) (h : cE (n + 1) S (.Compare a [op] [b] pos) = some ce) : PT X (.Compare a [op] [b] pos) (IB G W (evE C ce)) ∧ PE X (.Compare a [op] [b] pos) (IE G W (pu ce) (evE C ce)) := by
  simp only [cE] at h
  split at h
  · cases h
  · rename_i hm
    obtain ⟨ca, h1, h⟩ := Option.bind_eq_some_iff.mp h
    obtain ⟨cb, h2, h⟩ := Option.bind_eq_some_iff.mp h
    have pa := hE k X G W C S a ca o h1
    have pb := hE k X G W C S b cb o h2
    split at h
    · rename_i c hc
      split at h
      · rename_i hop
        cases h
        have hop : op = .Eq ∨ op = .NotEq := by
          rw [Bool.or_eq_true] at hop
          exact hop.imp (fun z => by simpa using z) (fun z => by simpa using z)
        obtain ⟨j, f, fd, ps, F, q1, q2, q3, q4, q5, q6⟩ := o.eqs pos c hc
        exact ⟨pt_ocmpI (f := 0) hop F o.room q1 q2 q3 q4 q5 q6 rfl rfl pa pb (by simpa using hm), pe_ocmpI (f := 0) hop F o.room q1 q2 q3 q4 q5 q6 rfl rfl pa pb (by simpa using hm)⟩
      · cases h
    · cases h
      exact ⟨pt_cmpI o.room pa pb (by simpa using hm), pe_cmpI o.room pa pb (by simpa using hm)⟩
theorem ok_chT (hE : SdE n) {a b c : Expr} {o1 o2 : CmpOp} {pos : Pos} {ce : CE} (o : XOk k X G W C S) (h : cE (n + 1) S (.Compare a [o1, o2] [b, c] pos) = some ce) : PT X (.Compare a [o1, o2] [b, c] pos) (IB G W (evE C ce)) ∧ PE X (.Compare a [o1, o2] [b, c] pos) (IE G W (pu ce) (evE C ce)) := by
  simp only [cE] at h
  split at h
  · cases h
  · rename_i hm
    obtain ⟨ca, h1, h⟩ := Option.bind_eq_some_iff.mp h
    obtain ⟨cb, h2, h⟩ := Option.bind_eq_some_iff.mp h
    obtain ⟨cc, h3, rfl⟩ := Option.map_eq_some_iff.mp h
    have pa := hE k X G W C S a ca o h1
    have pb := hE k X G W C S b cb o h2
    have pc := hE k X G W C S c cc o h3
    have hm : lastMarks [o1, o2] [b, c] = false := by simpa [lastMarks] using hm
    exact ⟨pt_chainI o.room pa pb pc hm, pe_chainI o.room pa pb pc hm⟩
theorem ok_T (hE : SdE n) (hE0 : ∀ m, m + 1 = n → SdE m) (hT : SdT n) : SdT (n + 1) := by
  intro k X G W C S e ce o h
  have leaf : ∀ e : Expr, leafB e = true → cE n S e = some ce → PT X e (IB G W (evE C ce)) := fun e hl h => pt_leafI (hE k X G W C S e ce o h) (leaf_is hl X.env)
  simp only [cT] at h
  split at h
  · exact PW.pt (pw_and1 (hT k X G W C S _ ce o h))
  · obtain ⟨ca, h1, h⟩ := Option.bind_eq_some_iff.mp h
    obtain ⟨cb, h2, rfl⟩ := Option.map_eq_some_iff.mp h
    rename_i a b r pos _
    have q : PT X (.BoolOp .And (b :: r) pos) (IB G W (evE C cb)) := hT k X G W C S _ cb o h2
    have qw : PW X (.BoolOp .And (b :: r) pos) (IB G W (evE C cb)) := ⟨fun whole pins s σ H Q I hh => by
      have := q.run pins s σ H Q I hh
      have e : PySem.isTrue (.BoolOp .And (b :: r) pos) X.env whole = PySem.isTrue (.BoolOp .And (b :: r) pos) X.env (eval (.BoolOp .And (b :: r) pos) X.env) := rfl
      rw [e]; exact this⟩
    exact (pw_by (pw_andI (hT k X G W C S _ ca o h1) qw) fun σ H Q z => it_eq (fun η => tand_eq η) z).pt
  · exact PW.pt (pw_or1 (hT k X G W C S _ ce o h))
  · obtain ⟨ca, h1, h⟩ := Option.bind_eq_some_iff.mp h
    obtain ⟨cb, h2, rfl⟩ := Option.map_eq_some_iff.mp h
    rename_i a b r pos _
    have q : PT X (.BoolOp .Or (b :: r) pos) (IB G W (evE C cb)) := hT k X G W C S _ cb o h2
    have qw : PW X (.BoolOp .Or (b :: r) pos) (IB G W (evE C cb)) := ⟨fun whole pins s σ H Q I hh => by
      have := q.run pins s σ H Q I hh
      have e : PySem.isTrue (.BoolOp .Or (b :: r) pos) X.env whole = PySem.isTrue (.BoolOp .Or (b :: r) pos) X.env (eval (.BoolOp .Or (b :: r) pos) X.env) := rfl
      rw [e]; exact this⟩
    exact (pw_by (pw_orI (hT k X G W C S _ ca o h1) qw) fun σ H Q z => it_eq (fun η => tor_eq η) z).pt
  · obtain ⟨ca, h1, rfl⟩ := Option.map_eq_some_iff.mp h
    exact pt_by (pt_notI (hT k X G W C S _ ca o h1)) fun σ H Q z => it_eq (fun η => tnot_eq η) z
  · cases n with
    | zero => simp [cE] at h
    | succ m => exact (ok_cmpT (hE0 m rfl) o h).1
  · cases n with
    | zero => simp [cE] at h
    | succ m => exact (ok_chT (hE0 m rfl) o h).1
  · split at h
    · rename_i hl
      exact leaf _ hl h
    · cases h
theorem ok_I (hE : SdE n) (hL : SdL n) : SdI (n + 1) := by
  intro k X G W C S tg e it o h
  have val : ∀ e : Expr, (cE n S e).map IT.val = some it → PI X tg e (II G W (evIt C it)) := fun e h => by
    obtain ⟨ce, h1, rfl⟩ := Option.map_eq_some_iff.mp h
    exact pi_valI (hE k X G W C S e ce o h1)
  simp only [cI] at h
  split at h
  · rename_i x p es pos
    split at h
    · rename_i hc
      simp only [Bool.and_eq_true, beq_iff_eq, decide_eq_true_eq] at hc
      obtain ⟨⟨⟨hg, rfl⟩, hs⟩, h1, h2⟩ := hc
      obtain ⟨ces, hl, rfl⟩ := Option.map_eq_some_iff.mp h
      obtain ⟨q1, q2, q3⟩ := hL k X G W C S es ces o hl
      have g := (gl_of o hg).1
      have hmg := blt_of o (x := "range") (by decide +kernel)
      match es, ces, q1, q2, q3, h1, h2 with
      | [a], [ca], q1, q2, _, _, _ =>
        simp only [List.all_cons, List.all_nil, Bool.and_true] at q2
        exact pi_rng1I g hmg q1 (by rw [star_cons q2]; rfl)
      | [a, b], [ca, cb], q1, q2, _, _, _ =>
        simp only [List.all_cons, List.all_nil, Bool.and_true, Bool.and_eq_true] at q2
        exact pi_rng2I g hmg q1 (by rw [star_cons q2.1, star_cons q2.2]; rfl) (by rw [star_cons q2.2]; rfl)
      | [], _, _, _, _, h1, _ => simp at h1
      | _ :: _ :: _ :: _, _, _, _, _, _, h2 => simp at h2
      | [_], [], _, _, h3, _, _ => simp at h3
      | [_], _ :: _ :: _, _, _, h3, _, _ => simp at h3
      | [_, _], [], _, _, h3, _, _ => simp at h3
      | [_, _], [_], _, _, h3, _, _ => simp at h3
      | [_, _], _ :: _ :: _ :: _, _, _, h3, _, _ => simp at h3
    · split at h
      · rename_i hc
        simp only [Bool.and_eq_true, beq_iff_eq] at hc
        obtain ⟨hg, rfl⟩ := hc
        split at h
        · rename_i a
          obtain ⟨cs, hl, h⟩ := Option.bind_eq_some_iff.mp h
          split at h
          · cases h
            obtain ⟨q1, q2, q3⟩ := hL k X G W C S _ _ o hl
            simp only [List.all_cons, List.all_nil, Bool.and_true] at q2
            exact pi_enumI (gl_of o hg).1 (blt_of o (x := "enumerate") (by decide +kernel)) q1 (by rw [star_cons q2]; rfl)
          · cases h
        · cases h
      · split at h
        · rename_i hc
          simp only [Bool.and_eq_true, beq_iff_eq] at hc
          obtain ⟨hg, rfl⟩ := hc
          split at h
          · rename_i a b
            obtain ⟨cs, hl, h⟩ := Option.bind_eq_some_iff.mp h
            split at h
            · cases h
              obtain ⟨q1, q2, q3⟩ := hL k X G W C S _ _ o hl
              simp only [List.all_cons, List.all_nil, Bool.and_true, Bool.and_eq_true] at q2
              exact pi_zipI (gl_of o hg).1 (blt_of o (x := "zip") (by decide +kernel)) q1 (star_cons q2.1 _ _) (star_plain _ _ (by simp [q2.2]))
            · cases h
          · cases h
        · exact val _ h
  · exact val _ h
end
end TV
/-! the translation is right: expressions -/
namespace TV
open PySem L2
def SdC (n : Nat) : Prop := ∀ (k : Nat) (X : Cx) (G : Par) (W : WX) (C : Ctx) (S : SC) (x : Str) (e : Expr) (es : List Expr) (p pos : Pos) (ce : CE), XOk k X G W C S → cCall n S x (e :: es) = some ce → PE X (.Call (.Name x p) (e :: es) [] pos) (IE G W (pu ce) (evE C ce))
section
variable {k n : Nat} {X : Cx} {G : Par} {W : WX} {C : Ctx} {S : SC}
theorem bf_ok (o : XOk k X G W C S) {x : Str} {b : BF} (h : bfOf x = some b) : CallR X (bfV b) (rF G.ca (bfT b)) ∧ X.mg x = none ∧ bootBuiltins x = some (bfV b) := by
  unfold bfOf at h
  split at h
  · rename_i e; cases h; obtain rfl := eq_of_beq e; exact ⟨ok_len, blt_of o (by decide +kernel), by decide +kernel⟩
  split at h
  · rename_i e; cases h; obtain rfl := eq_of_beq e; exact ⟨ok_sorted o.room, blt_of o (by decide +kernel), by decide +kernel⟩
  split at h
  · rename_i e; cases h; obtain rfl := eq_of_beq e; exact ⟨ok_tuple, blt_of o (by decide +kernel), by decide +kernel⟩
  split at h
  · rename_i e; cases h; obtain rfl := eq_of_beq e; exact ⟨ok_list, blt_of o (by decide +kernel), by decide +kernel⟩
  split at h
  · rename_i e; cases h; obtain rfl := eq_of_beq e; exact ⟨ok_min o.room o.calm, blt_of o (by decide +kernel), by decide +kernel⟩
  split at h
  · rename_i e; cases h; obtain rfl := eq_of_beq e; exact ⟨ok_sum o.calm, blt_of o (by decide +kernel), by decide +kernel⟩
  split at h
  · rename_i e; cases h; obtain rfl := eq_of_beq e; exact ⟨ok_all o.calm, blt_of o (by decide +kernel), by decide +kernel⟩
  split at h
  · rename_i e; cases h; obtain rfl := eq_of_beq e; exact ⟨ok_any o.calm, blt_of o (by decide +kernel), by decide +kernel⟩
  split at h
  · rename_i e; cases h; obtain rfl := eq_of_beq e; exact ⟨ok_abs, blt_of o (by decide +kernel), by decide +kernel⟩
  split at h
  · rename_i e; cases h; obtain rfl := eq_of_beq e; exact ⟨ok_int, blt_of o (by decide +kernel), by decide +kernel⟩
  · cases h
theorem bm_name {x : Str} {b : BM} (h : bmOf x = some b) : x = bmName b ∧ b ≠ .setdefault := by
  unfold bmOf at h
  split at h
  · rename_i e; cases h; exact ⟨eq_of_beq e, by decide⟩
  split at h
  · rename_i e; cases h; exact ⟨eq_of_beq e, by decide⟩
  split at h
  · rename_i e; cases h; exact ⟨eq_of_beq e, by decide⟩
  split at h
  · rename_i e; cases h; exact ⟨eq_of_beq e, by decide⟩
  split at h
  · rename_i e; cases h; exact ⟨eq_of_beq e, by decide⟩
  split at h
  · rename_i e; cases h; exact ⟨eq_of_beq e, by decide⟩
  split at h
  · rename_i e; cases h; exact ⟨eq_of_beq e, by decide⟩
  · cases h
/-- a class named in isinstance -/
theorem ty_ok (o : XOk k X G W C S) {e : Expr} {ty : TyN} (h : tyE S e = some ty) : ∃ v, PE X e (tC v) ∧ ClsV v (tyV G ty) := by
  unfold tyE at h
  split at h
  · rename_i x p
    split at h
    · rename_i hg
      obtain ⟨g1, g2, g3⟩ := gl_of o hg
      have blt : ∀ (nm : Str) (n : String), x = nm → nm ∈ bltNames → bootBuiltins nm = some (.type n) → PE X (.Name x p) (tC (.ty n)) := fun nm n e hb hv => by
        subst e
        exact pe_bltn g1 (o.blt _ hb) hv rfl g3 g2
      unfold tyNOf at h
      split at h
      · rename_i c hc
        cases h
        obtain ⟨m, _⟩ := o.mks x c hc
        exact ⟨.ref (G.ca c.1), pe_glob g1 m rfl g2, .own _⟩
      · split at h
        · rename_i e; cases h; exact ⟨_, blt "int" "int" (eq_of_beq e) (by decide +kernel) (by decide +kernel), .ty _⟩
        split at h
        · rename_i e; cases h; exact ⟨_, blt "bool" "bool" (eq_of_beq e) (by decide +kernel) (by decide +kernel), .ty _⟩
        split at h
        · rename_i e; cases h; exact ⟨_, blt "tuple" "tuple" (eq_of_beq e) (by decide +kernel) (by decide +kernel), .ty _⟩
        split at h
        · rename_i e; cases h; exact ⟨_, blt "list" "list" (eq_of_beq e) (by decide +kernel) (by decide +kernel), .ty _⟩
        split at h
        · rename_i e; cases h; exact ⟨_, blt "dict" "dict" (eq_of_beq e) (by decide +kernel) (by decide +kernel), .ty _⟩
        split at h
        · rename_i e; cases h; exact ⟨_, blt "str" "str" (eq_of_beq e) (by decide +kernel) (by decide +kernel), .ty _⟩
        · cases h
    · cases h
  · cases h
theorem tys_ok (o : XOk k X G W C S) : ∀ {es : List Expr} {ns : List TyN}, es.all notStar = true → tyEs S es = some ns → ∃ vs, PA X es (tCs vs) ∧ Paired ClsV vs (ns.map (tyV G)) ∧ vs.length = es.length
  | [], ns, _, h => by
    simp only [tyEs] at h
    cases h
    exact ⟨[], pa_const0, .nil, rfl⟩
  | e :: es, ns, hs, h => by
    simp only [tyEs] at h
    simp only [List.all_cons, Bool.and_eq_true] at hs
    split at h
    · rename_i n ns' h1 h2
      cases h
      obtain ⟨v, p, q⟩ := ty_ok o h1
      obtain ⟨vs, pa, qa, l⟩ := tys_ok o hs.2 h2
      exact ⟨v :: vs, pa_consts pa p (star_cons hs.1 _ _), .cons q qa, by simp [l]⟩
    · cases h
theorem bf_list {x : Str} (h : bfOf x = some .list) : x = "list" := by
  unfold bfOf at h
  repeat (split at h; · rename_i e; first | cases h; done | exact eq_of_beq e)
  cases h
theorem bf_tuple {x : Str} (h : bfOf x = some .tuple) : x = "tuple" := by
  unfold bfOf at h
  repeat (split at h; · rename_i e; first | cases h; done | exact eq_of_beq e)
  cases h
theorem rg_ok (o : XOk k X G W C S) {x : Str} {b b' : BF} {es : List Expr} {a : Expr} {ca : CE} {p pos : Pos} (hg : glB S x = true) (hb : bfOf x = some b) (h : rgArg S b es = some (b', a)) (hE : ∀ ce, cE n S a = some ce → PE X a (IE G W (pu ce) (evE C ce))) (hc : cE n S a = some ca) :
    PE X (.Call (.Name x p) es [] pos) (IE G W false (evE C (.bf b' [ca]))) := by
  unfold rgArg at h
  split at h
  · split at h
    · rename_i y yp a' pp hh
      simp only [Bool.and_eq_true, beq_iff_eq] at hh
      obtain ⟨⟨h1, h2⟩, h3⟩ := hh
      subst h2
      obtain ⟨g1, _, _⟩ := gl_of o hg
      obtain ⟨r1, _, _⟩ := gl_of o h1
      split at h
      · cases h
        obtain rfl := bf_list hb
        exact pe_lrgI o.calm g1 (blt_of o (by decide +kernel)) r1 (blt_of o (by decide +kernel)) (hE ca hc) (star_cons h3 _ _)
      · cases h
        obtain rfl := bf_tuple hb
        exact pe_trgI o.calm g1 (blt_of o (by decide +kernel)) r1 (blt_of o (by decide +kernel)) (hE ca hc) (star_cons h3 _ _)
      · cases h
    · cases h
  · cases h
theorem ok_C (hE : SdE n) (hL : SdL n) : SdC (n + 1) := by
  intro k X G W C S x e es p pos ce o h
  simp only [cCall] at h
  split at h
  · rename_i hh
    rw [Bool.and_eq_true] at hh
    obtain ⟨hg, hs⟩ := hh
    obtain ⟨g1, g2, g3⟩ := gl_of o hg
    have hs' := hs
    simp only [List.all_cons, Bool.and_eq_true] at hs'
    have e1 := star_cons hs'.1 es X.env
    have e2 := star_plain pos X.env hs'.2
    split at h
    · rename_i j hf
      split at h
      · rename_i hl
        obtain ⟨ces, h1, rfl⟩ := Option.map_eq_some_iff.mp h
        obtain ⟨q1, _, q3⟩ := hL k X G W C S _ ces o h1
        obtain ⟨f, fd, ps, F, l, m, kp, b⟩ := o.fns x j hf
        exact pe_callI F (o.room.mono (Nat.le_succ k)) g1 m kp b o.hx rfl rfl (by rw [q3, l, hl]) q1 g2 e1 e2
      · cases h
    · rename_i c _ hc
      split at h
      · rename_i hl
        obtain ⟨ces, h1, rfl⟩ := Option.map_eq_some_iff.mp h
        obtain ⟨q1, _, q3⟩ := hL k X G W C S _ ces o h1
        obtain ⟨m, f, fd, ps, j, io, M, F, l, b, hi, hio⟩ := o.mks x c hc
        exact pe_mkI M F o.room g1 m b hi hio rfl (by rw [q3, l, hl]) q1 g2 e1 e2
      · cases h
    · rename_i b _ _ hb
      split at h
      · rename_i b' a hra
        obtain ⟨ca, h1, rfl⟩ := Option.map_eq_some_iff.mp h
        exact rg_ok o hg hb hra (fun ce' h' => hE k X G W C S a ce' o h') h1
      obtain ⟨ces, h1, rfl⟩ := Option.map_eq_some_iff.mp h
      obtain ⟨q1, _, q3⟩ := hL k X G W C S _ ces o h1
      obtain ⟨c1, c2, c3⟩ := bf_ok o hb
      exact pe_bfI c1 g1 c2 c3 q1 g3 g2 e1 e2
    · split at h
      · rename_i a ts kk p2 heq
        cases heq
        split at h
        · rename_i hx
          simp only [Bool.and_eq_true, decide_eq_true_eq] at hx
          obtain ⟨⟨hx, hts⟩, hl⟩ := hx
          obtain rfl := eq_of_beq hx
          obtain ⟨ca, h1, h⟩ := Option.bind_eq_some_iff.mp h
          obtain ⟨ns, h2, rfl⟩ := Option.map_eq_some_iff.mp h
          obtain ⟨vs, pa, qa, l⟩ := tys_ok o hts h2
          exact pe_isiT o.clI o.kit g1 (blt_of o (by decide +kernel)) (hE k X G W C S _ ca o h1) pa qa (by rw [l]; exact hl) e1 (star_cons rfl _ _) e2
        · cases h
      · rename_i a t _ heq
        cases heq
        split at h
        · rename_i hx
          obtain rfl := eq_of_beq hx
          obtain ⟨ca, h1, h⟩ := Option.bind_eq_some_iff.mp h
          obtain ⟨ty, h2, rfl⟩ := Option.map_eq_some_iff.mp h
          obtain ⟨v, pv, qv⟩ := ty_ok o h2
          simp only [List.all_cons, List.all_nil, Bool.and_true] at hs'
          exact pe_isi1 o.clI o.kit g1 (blt_of o (by decide +kernel)) (hE k X G W C S _ ca o h1) pv qv e1 (star_cons hs'.2 _ _) e2
        · cases h
      · cases h
  · cases h
end
end TV
/-! the translation is right: expressions, all together -/
namespace TV
open PySem L2
section
variable {k n : Nat} {X : Cx} {G : Par} {W : WX} {C : Ctx} {S : SC}
theorem own_fst {S : SC} {scope : Scope} (h : blkC S.N S.sc scope (ownOf S scope) = true) (o : XOk k X G W C S) : BlkOk X.N X.env.scope scope (ownOf S scope) := by
  rw [o.N, o.scope]; exact blkOk_by h
theorem few_ok {es : List Expr} (h : fewB es = true) (cpos : Pos) (env : PySem.Env) :
    ((backTo cpos (starEach es env)).all (fun x => !x.1) && (backToKw cpos (keywordEach [] env)).all (fun x => x.1.isSome) && decide (es.length + ([] : List Keyword).length + (if ([] : List Keyword).isEmpty then 0 else 1) < 30)) = true := by
  simp only [fewB, Bool.and_eq_true, decide_eq_true_eq] at h
  have e1 := star_plain cpos env h.1
  have e2 : (backTo cpos (starEach es env)).all (fun x => !x.1) = true := by
    rw [List.all_eq_true]
    intro x hx
    have := List.any_eq_false.mp e1 x hx
    simpa using this
  simp [e2, backToKw, keywordEach]
  omega
theorem bm_all (ok : XOk k X G W C S) {b : BM} {o : Expr} {co : CE} {es : List Expr} {ces : List CE} {apos cpos : Pos} (hne : b ≠ .setdefault) (po : PE X o (IE G W (pu co) (evE C co))) (q1 : PA X es (IA G W (clos C ces))) (q2 : es.all notStar = true) (q3 : ces.length = es.length) (hb : noCall0 o = true) (hf : fewB es = true)
    (hl : (apos.endLine == cpos.line) = true) : PE X (.Call (.Attribute o (bmName b) apos) es [] cpos) (IE G W false (evE C (.bm b co ces))) := by
  cases es with
  | nil =>
    have : ces = [] := List.eq_nil_of_length_eq_zero q3
    subst this
    exact pe_bm0I ok.room hne po (abase hb _ _ _) hl
  | cons e es =>
    simp only [List.all_cons, Bool.and_eq_true] at q2
    exact pe_bmI ok.room hne po q1 (abase hb _ _ _) (few_ok hf _ _) hl (star_cons q2.1 _ _) (star_plain _ _ q2.2)
theorem plain_ix {i : Expr} (h : noSlice i = true) : PlainIx i := by
  intro a b
  cases i <;> first | rfl | simp [noSlice] at h
theorem ok_E (hE : SdE n) (hL : SdL n) (hP : SdP n) (hT : SdT n) (hTs : SdTs n) (hI : SdI n) (hC : SdC n) : SdE (n + 1) := by
  intro k X G W C S e ce o h
  have h0 := h
  simp only [cE] at h
  split at h
  · -- a name
    rename_i x p
    split at h
    · rename_i hv
      obtain ⟨i, hi, rfl⟩ := Option.map_eq_some_iff.mp h
      obtain ⟨v1, v2, v3⟩ := vis_of o hv
      exact pe_slotI (by rw [o.N]; exact nIx_at hi) v1 v2 v3
    · split at h
      · rename_i hg
        obtain ⟨t, ht, rfl⟩ := Option.map_eq_some_iff.mp h
        obtain ⟨g1, g2, g3⟩ := gl_of o hg
        obtain ⟨hf, v, u, hm, r, hv⟩ := o.kcs x t ht
        exact pe_cstG (pe_glob g1 hm r g2) (fun _ _ _ q => q) hf hv
      · cases h
  · cases h; exact pe_intI
  · cases h; exact pe_blI
  · cases h; exact pe_nonI
  · cases h; exact pe_strI
  · split at h
    · rename_i hl
      obtain ⟨ces, h1, rfl⟩ := Option.map_eq_some_iff.mp h
      obtain ⟨q1, q2, q3⟩ := hL k X G W C S _ ces o h1
      exact pe_tupI q1 (by rw [q3]; exact hl)
    · cases h
  · split at h
    · rename_i hl
      obtain ⟨ces, h1, rfl⟩ := Option.map_eq_some_iff.mp h
      obtain ⟨q1, q2, q3⟩ := hL k X G W C S _ ces o h1
      exact pe_lstI q1 (by rw [q3]; exact hl)
    · cases h
  · cases h; exact pe_dicI
  · obtain ⟨ck, h1, h⟩ := Option.bind_eq_some_iff.mp h
    obtain ⟨cv, h2, rfl⟩ := Option.map_eq_some_iff.mp h
    exact pe_dic1I (hE k X G W C S _ ck o h1) (hE k X G W C S _ cv o h2)
  · obtain ⟨ca, h1, h⟩ := Option.bind_eq_some_iff.mp h
    obtain ⟨cb, h2, rfl⟩ := Option.map_eq_some_iff.mp h
    exact pe_binI (hE k X G W C S _ ca o h1) (hE k X G W C S _ cb o h2)
  · obtain ⟨ca, h1, rfl⟩ := Option.map_eq_some_iff.mp h
    exact pe_unI (hE k X G W C S _ ca o h1)
  · obtain ⟨ca, h1, rfl⟩ := Option.map_eq_some_iff.mp h
    exact pe_notI (hE k X G W C S _ ca o h1)
  · obtain ⟨ca, h1, h⟩ := Option.bind_eq_some_iff.mp h
    obtain ⟨cb, h2, rfl⟩ := Option.map_eq_some_iff.mp h
    exact pe_andI (hE k X G W C S _ ca o h1) (pe_one (hE k X G W C S _ cb o h2))
  · obtain ⟨ca, h1, h⟩ := Option.bind_eq_some_iff.mp h
    obtain ⟨cb, h2, h⟩ := Option.bind_eq_some_iff.mp h
    obtain ⟨cc, h3, rfl⟩ := Option.map_eq_some_iff.mp h
    exact pe_andI (cb := .and_ cb cc) (hE k X G W C S _ ca o h1) (pe_andI (hE k X G W C S _ cb o h2) (pe_one (hE k X G W C S _ cc o h3)))
  · obtain ⟨ca, h1, h⟩ := Option.bind_eq_some_iff.mp h
    obtain ⟨cb, h2, rfl⟩ := Option.map_eq_some_iff.mp h
    exact pe_orI (hE k X G W C S _ ca o h1) (pe_one (hE k X G W C S _ cb o h2))
  · obtain ⟨ca, h1, h⟩ := Option.bind_eq_some_iff.mp h
    obtain ⟨cb, h2, h⟩ := Option.bind_eq_some_iff.mp h
    obtain ⟨cc, h3, rfl⟩ := Option.map_eq_some_iff.mp h
    exact pe_orI (cb := .or_ cb cc) (hE k X G W C S _ ca o h1) (pe_orI (hE k X G W C S _ cb o h2) (pe_one (hE k X G W C S _ cc o h3)))
  · exact (ok_cmpT hE o h0).2
  · exact (ok_chT hE o h0).2
  · obtain ⟨ct, h1, h⟩ := Option.bind_eq_some_iff.mp h
    obtain ⟨ca, h2, h⟩ := Option.bind_eq_some_iff.mp h
    obtain ⟨cb, h3, rfl⟩ := Option.map_eq_some_iff.mp h
    exact pe_ifeI (hT k X G W C S _ ct o h1) (hE k X G W C S _ ca o h2) (hE k X G W C S _ cb o h3)
  · obtain ⟨ca, h1, h⟩ := Option.bind_eq_some_iff.mp h
    obtain ⟨cs, h2, rfl⟩ := Option.map_eq_some_iff.mp h
    exact pe_revI (hE k X G W C S _ ca o h1) (hE k X G W C S _ cs o h2)
  · obtain ⟨ca, h1, h⟩ := Option.bind_eq_some_iff.mp h
    obtain ⟨cl, h2, h⟩ := Option.bind_eq_some_iff.mp h
    obtain ⟨ch, h3, rfl⟩ := Option.map_eq_some_iff.mp h
    exact pe_slcI (hE k X G W C S _ ca o h1) (hP k X G W C S _ cl o h2) (hP k X G W C S _ ch o h3)
  · split at h
    · rename_i hs
      obtain ⟨ca, h1, h⟩ := Option.bind_eq_some_iff.mp h
      obtain ⟨ci, h2, rfl⟩ := Option.map_eq_some_iff.mp h
      exact pe_idxI o.room (hE k X G W C S _ ca o h1) (hE k X G W C S _ ci o h2) (plain_ix hs)
    · cases h
  · split at h
    · rename_i hb
      rw [Bool.and_eq_true] at hb
      obtain ⟨co, h1, rfl⟩ := Option.map_eq_some_iff.mp h
      exact pe_attI (fun c hc => o.att c _ hc hb.2) (hE k X G W C S _ co o h1) (abase hb.1 _ _ _)
    · cases h
  · exact hC k X G W C S _ _ _ _ _ ce o h
  · split at h
    · rename_i hh
      simp only [Bool.and_eq_true] at hh
      obtain ⟨⟨hb, hf⟩, hl⟩ := hh
      obtain ⟨b, hbm, h⟩ := Option.bind_eq_some_iff.mp h
      obtain ⟨co, h1, h⟩ := Option.bind_eq_some_iff.mp h
      obtain ⟨ces, h2, rfl⟩ := Option.map_eq_some_iff.mp h
      obtain ⟨rfl, hne⟩ := bm_name hbm
      obtain ⟨q1, q2, q3⟩ := hL k X G W C S _ ces o h2
      exact bm_all o hne (hE k X G W C S _ co o h1) q1 q2 q3 hb hf hl
    · cases h
  · obtain ⟨it, h1, h⟩ := Option.bind_eq_some_iff.mp h
    split at h
    · rename_i hh
      simp only [Bool.and_eq_true, decide_eq_true_eq] at hh
      obtain ⟨⟨⟨hns, hbk⟩, hnd⟩, hif⟩ := hh
      obtain ⟨ft, h2, h⟩ := Option.bind_eq_some_iff.mp h
      split at h
      · rename_i hsl
        obtain ⟨cifs, h3, h⟩ := Option.bind_eq_some_iff.mp h
        obtain ⟨celt, h4, rfl⟩ := Option.map_eq_some_iff.mp h
        exact pe_lcI o.calm (by rw [o.N]; exact o.nd) (hI k X G W C S _ _ it o h1) (own_fst hbk o)
          (fun s H A cl fp => ok_F (o.inner _ s H A cl fp) (by simp [G0]) _ ft h2) (fun s H A cl fp => hTs k _ _ _ C _ _ cifs (o.inner _ s H A cl fp) hif h3) (fun s H A cl fp => hE k _ _ _ C _ _ celt (o.inner _ s H A cl fp) h4)
          (fun x => fold_set hns _ x) (fun i hi => by simpa using List.all_eq_true.mp hsl i hi) hnd
      · cases h
    · cases h
  · obtain ⟨it, h1, h⟩ := Option.bind_eq_some_iff.mp h
    split at h
    · rename_i hh
      simp only [Bool.and_eq_true, decide_eq_true_eq] at hh
      obtain ⟨⟨⟨hns, hbk⟩, hnd⟩, hif⟩ := hh
      obtain ⟨ft, h2, h⟩ := Option.bind_eq_some_iff.mp h
      split at h
      · rename_i hsl
        obtain ⟨cifs, h3, h⟩ := Option.bind_eq_some_iff.mp h
        obtain ⟨ck, h4, h⟩ := Option.bind_eq_some_iff.mp h
        obtain ⟨cv, h5, rfl⟩ := Option.map_eq_some_iff.mp h
        exact pe_dcI o.room o.calm (by rw [o.N]; exact o.nd) (hI k X G W C S _ _ it o h1) (own_fst hbk o)
          (fun s H A cl fp => ok_F (o.inner _ s H A cl fp) (by simp [G0]) _ ft h2) (fun s H A cl fp => hTs k _ _ _ C _ _ cifs (o.inner _ s H A cl fp) hif h3) (fun s H A cl fp => hE k _ _ _ C _ _ ck (o.inner _ s H A cl fp) h4) (fun s H A cl fp => hE k _ _ _ C _ _ cv (o.inner _ s H A cl fp) h5)
          (fun x => fold_set hns _ x) (fun i hi => by simpa using List.all_eq_true.mp hsl i hi) hnd
      · cases h
    · cases h
  · cases h
/-- all together -/
theorem sound : ∀ n : Nat, SdE n ∧ SdL n ∧ SdP n ∧ SdT n ∧ SdTs n ∧ SdI n ∧ SdC n
  | 0 => ⟨fun _ _ _ _ _ _ _ _ _ h => by simp [cE] at h, fun _ _ _ _ _ _ _ _ _ h => by simp [cL] at h, fun _ _ _ _ _ _ _ _ _ h => by simp [cP] at h, fun _ _ _ _ _ _ _ _ _ h => by simp [cT] at h, fun _ _ _ _ _ _ _ _ _ _ h => by simp [cTs] at h,
      fun _ _ _ _ _ _ _ _ _ _ h => by simp [cI] at h, fun _ _ _ _ _ _ _ _ _ _ _ _ _ h => by simp [cCall] at h⟩
  | n + 1 => by
    obtain ⟨hE, hL, hP, hT, hTs, hI, hC⟩ := sound n
    exact ⟨ok_E hE hL hP hT hTs hI hC, ok_L hE hL, ok_P hE, ok_T hE (fun m hm => by
      cases hm
      exact (sound m).1) hT, ok_Ts hT, ok_I hE hL, ok_C hE hL⟩
end
end TV
/-! the text to the core language: statements -/
namespace TV
open PySem L2
/-- a statement that is out of reach -/
def erS : CS := .tryE [] 0 none []
def noTupE : Expr → Bool
  | .Tuple _ _ _ => false
  | _ => true
/-- a comprehension, as it stands behind an assignment to a name -/
def lcParts : Expr → Option (Expr × List Expr × Scope)
  | .ListComp elt [⟨tg, iter, ifs, 0⟩] scope _ => some (tg, [elt, iter], scope)
  | _ => none
def swOk (S : SC) (x : Str) (px : Pos) (e : Expr) (scope : Scope) : Bool := S.kind x == some .local && S.sc.kind == .function && (px.line == e.pos.line) && !(scope.names.any fun (n, k) => n == x && (k == .local || k == .cell))
/-- x, y = a, b is stored from the right -/
def parB (S : SC) (x : Str) (px : Pos) (y : Str) (py : Pos) (a b : Expr) : Bool := S.kind x == some .local && S.kind y == some .local && S.sc.kind == .function && (px.line == py.line) && !(x == y) && notStar a && notStar b && !([a, b].all (foldedForSure 8)) && !([a, b].all (constantsAlone 8))
def cPar (n : Nat) (S : SC) (es : List Expr) (e : Expr) : CS :=
  match es, e with
  | [.Name x px, .Name y py], .Tuple [a, b] _ _ => if parB S x px y py a b then (match nIx S.N x, nIx S.N y, cE n S a, cE n S b with
    | some i, some j, some ca, some cb => if i = j then erS else .par i j ca cb
    | _, _, _, _ => erS) else erS
  | _, _ => erS
/-- some target is no local name: the stores are not swapped -/
def noSwB (S : SC) (es : List Expr) : Bool := es.any fun e => match e with
  | .Name x _ => !(S.kind x == some .local)
  | _ => true
/-- x, y = a, b by way of a tuple (some name stands in a cell) -/
def cParC (n : Nat) (S : SC) (es : List Expr) (e : Expr) : Option CS :=
  match es, e with
  | [.Name x _, .Name y _], .Tuple [a, b] _ _ => if locB S x && locB S y && notStar a && notStar b && noSwB S es then (match nIx S.N x, nIx S.N y, cE n S a, cE n S b with
    | some i, some j, some ca, some cb => if i = j then none else some (.par i j ca cb)
    | _, _, _, _ => none) else none
  | _, _ => none
mutual
def cS (n : Nat) (S : SC) : Stmt → CS
  | .Expr e _ => if noComp e then (match cE n S e with | some ce => .expr ce | none => erS) else erS
  | .Return (some e) _ => (match cE n S e with | some ce => .ret ce | none => erS)
  | .Return none _ => .ret0
  | .Pass _ => .pass
  | .Break _ => .brk
  | .Continue _ => .cnt
  | .If t a b _ => (match cT n S t with | some ct => .ife ct (cB n S a) (cB n S b) | none => erS)
  | .While t a [] _ => (match cT n S t with | some ct => .whl ct (cB n S a) | none => erS)
  | .For tg iter a [] _ => if noSet iter then (match cI n S tg iter, cF S tg with | some it, some ft => .for_ ft it (cB n S a) | _, _ => erS) else erS
  | .Assign [.Name x px] e _ => if locB S x then (match nIx S.N x, cE n S e with
    | some i, some ce => if noComp e || !(S.kind x == some .local) then .asg false (.s i) ce else (match e with
      | .ListComp _ _ scope _ => if swOk S x px e scope then .asg false (.s i) ce else erS
      | .DictComp _ _ _ scope _ => if swOk S x px e scope then .asg false (.s i) ce else erS
      | _ => erS)
    | _, _ => erS) else erS
  | .Assign [.Tuple es kk pt] e _ => (match cParC n S es e with
    | some s => s
    | none => if noTupE e || noSwB S es then (match cF S (.Tuple es kk pt), cE n S e with
      | some (.t fts), some ce => .asg false (.t fts) ce
      | _, _ => erS) else cPar n S es e)
  | .Assign [.Subscript o i _] e _ => if noSlice i then (match cE n S o, cE n S i, cE n S e with
    | some co, some ci, some ce => .asgIx co ci ce
    | _, _, _ => erS) else erS
  | .Assign [.Attribute o f _] e _ => if S.fl.contains f then (match cE n S o, cE n S e with
    | some co, some ce => .asgAt co f ce
    | _, _ => erS) else erS
  | .AugAssign (.Name x _) op e _ => if locB S x then (match nIx S.N x, cE n S e with
    | some i, some ce => .aug i op ce
    | _, _ => erS) else erS
  | .AugAssign (.Subscript o i _) op e _ => if noSlice i then (match cE n S o, cE n S i, cE n S e with
    | some co, some ci, some ce => .augIx co ci op ce
    | _, _, _ => erS) else erS
  | _ => erS
def cB (n : Nat) (S : SC) : List Stmt → List CS
  | [] => []
  | s :: ss => cS n S s :: cB n S ss
end
section
variable {k n : Nat} {X : Cx} {G : Par} {W : WX} {C : Ctx} {S : SC}
theorem ps_erI {st : Stmt} : PS X st (IS G W (evS C erS)) := ps_by ps_never fun D σ H ⟨R, F, η, o, h⟩ => by
  simp only [erS, evS] at h
  exact h
theorem sw_no {e : Expr} (h : noComp e = true) (t : Option Expr) (l : Nat) (env : PySem.Env) : swapsWith e t l env = pure false := by
  cases e <;> first | rfl | simp [noComp] at h
theorem sw_cell {e : Expr} {x : Str} {px : Pos} {env : PySem.Env} (h : (env.kindOf x == some .local) = false) (l : Nat) : swapsWith e (some (.Name x px)) l env = pure false := by
  unfold swapsWith
  cases e <;> first
    | rfl
    | (simp only [h, Bool.and_false, Bool.false_and])
theorem fm_len {α β : Type} {f : α → Option β} : ∀ {l : List α}, (l.filterMap f).length = l.length → ∀ a ∈ l, (f a).isSome = true
  | a :: l, h, b, hb => by
    cases e : f a with
    | none =>
      rw [List.filterMap_cons_none e] at h
      have := List.length_filterMap_le f l
      simp only [List.length_cons] at h; omega
    | some y =>
      rw [List.filterMap_cons_some e] at h
      rcases List.mem_cons.mp hb with rfl | hb
      · rw [e]; rfl
      · exact fm_len (by simpa using h) b hb
theorem sw_storesN {es vs : List Expr} {k1 k2 : Nat} {p1 p2 : Pos} {env : PySem.Env} {S : SC} (hs : env.scope = S.sc) (h : noSwB S es = true) : swappedStores [.Tuple es k1 p1] (.Tuple vs k2 p2) env = pure none := by
  unfold swappedStores
  dsimp only
  split
  · rfl
  · split
    · rfl
    · split
      · rfl
      · rename_i hh
        exfalso
        simp only [Bool.or_eq_true, bne_iff_ne, ne_eq, not_or, Decidable.not_not] at hh
        obtain ⟨e, he, hb⟩ := List.any_eq_true.mp h
        have := fm_len hh.1 e he
        cases e <;> first
          | (simp at this; done)
          | skip
        rename_i x p
        dsimp only at this hb
        split at this
        · rename_i hk
          simp only [Bool.and_eq_true] at hk
          have e2 : env.kindOf x = S.kind x := by show env.scope.names.lookup x = _; rw [hs]; rfl
          rw [e2] at hk
          rw [hk.1] at hb
          cases hb
        · cases this
theorem sw_tgt {e t : Expr} (h : ∀ x p, t ≠ .Name x p) (l : Nat) (env : PySem.Env) : swapsWith e (some t) l env = pure false := by
  unfold swapsWith
  cases e <;> first
    | rfl
    | (cases t <;> first | rfl | exact absurd rfl (h _ _))
theorem sw_stores {e t : Expr} (h : noTupE e = true) (env : PySem.Env) : swappedStores [t] e env = pure none := by
  unfold swappedStores
  cases e <;> first | (cases t <;> rfl) | simp [noTupE] at h
theorem sw_stores2 {e t : Expr} (h : noTupE t = true) (h2 : ∀ es p, t ≠ .List es p) (env : PySem.Env) : swappedStores [t] e env = pure none := by
  unfold swappedStores
  cases t <;> first | (cases e <;> rfl) | exact absurd rfl (h2 _ _) | exact absurd h (by simp [noTupE])
/-- what a body's text wants besides -/
structure BOk (k : Nat) (X : Cx) (G : Par) (W : WX) (C : Ctx) (S : SC) : Prop where
  x : XOk k X G W C S
  po : PassesOwn (model X.prog X.w) X.A X.env X.xe
  kind : S.sc.kind = .function
theorem swOk_of (o : BOk k X G W C S) {x : Str} {px : Pos} {e : Expr} {scope : Scope} (h : swOk S x px e scope = true) : X.env.scope.names.lookup x = some .local ∧ X.env.scope.kind = .function ∧ (px.line == e.pos.line) = true ∧ (scope.names.any fun (n, k) => n == x && (k == .local || k == .cell)) = false := by
  simp only [swOk, Bool.and_eq_true, Bool.not_eq_true'] at h
  obtain ⟨⟨⟨h1, h2⟩, h3⟩, h4⟩ := h
  rw [o.x.scope]
  exact ⟨by simpa [SC.kind] using h1, o.kind, h3, h4⟩
theorem set_lc (o : BOk k X G W C S) {x : Str} {px pos p2 : Pos} {elt : Expr} {gens : List Comprehension} {scope : Scope} {ce : CE} {i : Nat} (hi : nIx S.N x = some i) (h : cE n S (.ListComp elt gens scope p2) = some ce) (hsw : swOk S x px (.ListComp elt gens scope p2) scope = true) :
    PS X (.Assign [.Name x px] (.ListComp elt gens scope p2) pos) (IS G W (evS C (.asg false (.s i) ce))) := by
  obtain ⟨w1, w2, w3, w4⟩ := swOk_of o hsw
  cases n with
  | zero => simp [cE] at h
  | succ m =>
    obtain ⟨hE, hL, hP, hT, hTs, hI, hC⟩ := sound m
    simp only [cE] at h
    split at h <;> try contradiction
    · rename_i heq
      cases heq
      obtain ⟨it, h1, h⟩ := Option.bind_eq_some_iff.mp h
      split at h
      · rename_i hh
        simp only [Bool.and_eq_true, decide_eq_true_eq] at hh
        obtain ⟨⟨⟨hns, hbk⟩, hnd⟩, hif⟩ := hh
        obtain ⟨ft, h2, h⟩ := Option.bind_eq_some_iff.mp h
        split at h
        · rename_i hsl
          obtain ⟨cifs, h3, h⟩ := Option.bind_eq_some_iff.mp h
          obtain ⟨celt, h4, rfl⟩ := Option.map_eq_some_iff.mp h
          exact ps_setLcI o.x.pins (by rw [o.x.N]; exact nIx_at hi) w1 (sw_true w2 w1 w3 w4) o.x.calm (by rw [o.x.N]; exact o.x.nd) (hI k X G W C S _ _ it o.x h1) (own_fst hbk o.x)
            (fun s H A cl fp => ok_F (o.x.inner _ s H A cl fp) (by simp [G0]) _ ft h2) (fun s H A cl fp => hTs k _ _ _ C _ _ cifs (o.x.inner _ s H A cl fp) hif h3) (fun s H A cl fp => hE k _ _ _ C _ _ celt (o.x.inner _ s H A cl fp) h4)
            (fun x => fold_set hns _ x) (fun i hi => by simpa using List.all_eq_true.mp hsl i hi) hnd
        · cases h
      · cases h
theorem sw_trueD {kx vx : Expr} {gs : List Comprehension} {scope : Scope} {pos py : Pos} {y : Str} {l : Nat} {env : PySem.Env} (hk : env.scope.kind = .function) (hy : env.scope.names.lookup y = some .local) (hl : (py.line == pos.line) = true)
    (ha : (scope.names.any fun (n, k) => n == y && (k == .local || k == .cell)) = false) : swapsWith (.DictComp kx vx gs scope pos) (some (.Name y py)) l env = pure true := by
  have ky : env.kindOf y = some .local := hy
  have hb : env.blockKind = .function := by unfold Env.blockKind; rw [hk]; rfl
  unfold swapsWith
  simp only [hb, ky, ha, Expr.pos, hl]
  rfl
theorem set_dc (o : BOk k X G W C S) {x : Str} {px pos p2 : Pos} {kx vx : Expr} {gens : List Comprehension} {scope : Scope} {ce : CE} {i : Nat} (hi : nIx S.N x = some i) (h : cE n S (.DictComp kx vx gens scope p2) = some ce) (hsw : swOk S x px (.DictComp kx vx gens scope p2) scope = true) :
    PS X (.Assign [.Name x px] (.DictComp kx vx gens scope p2) pos) (IS G W (evS C (.asg false (.s i) ce))) := by
  obtain ⟨w1, w2, w3, w4⟩ := swOk_of o hsw
  cases n with
  | zero => simp [cE] at h
  | succ m =>
    obtain ⟨hE, hL, hP, hT, hTs, hI, hC⟩ := sound m
    simp only [cE] at h
    split at h <;> try contradiction
    · rename_i heq
      cases heq
      obtain ⟨it, h1, h⟩ := Option.bind_eq_some_iff.mp h
      split at h
      · rename_i hh
        simp only [Bool.and_eq_true, decide_eq_true_eq] at hh
        obtain ⟨⟨⟨hns, hbk⟩, hnd⟩, hif⟩ := hh
        obtain ⟨ft, h2, h⟩ := Option.bind_eq_some_iff.mp h
        split at h
        · rename_i hsl
          obtain ⟨cifs, h3, h⟩ := Option.bind_eq_some_iff.mp h
          obtain ⟨ck, h4, h⟩ := Option.bind_eq_some_iff.mp h
          obtain ⟨cv, h5, rfl⟩ := Option.map_eq_some_iff.mp h
          exact ps_setDcI o.x.pins (by rw [o.x.N]; exact nIx_at hi) w1 (sw_trueD w2 w1 w3 w4) o.x.room o.x.calm (by rw [o.x.N]; exact o.x.nd) (hI k X G W C S _ _ it o.x h1) (own_fst hbk o.x)
            (fun s H A cl fp => ok_F (o.x.inner _ s H A cl fp) (by simp [G0]) _ ft h2) (fun s H A cl fp => hTs k _ _ _ C _ _ cifs (o.x.inner _ s H A cl fp) hif h3) (fun s H A cl fp => hE k _ _ _ C _ _ ck (o.x.inner _ s H A cl fp) h4) (fun s H A cl fp => hE k _ _ _ C _ _ cv (o.x.inner _ s H A cl fp) h5)
            (fun x => fold_set hns _ x) (fun i hi => by simpa using List.all_eq_true.mp hsl i hi) hnd
        · cases h
      · cases h
theorem asg_name (o : BOk k X G W C S) {x : Str} {px pos : Pos} {e : Expr} : PS X (.Assign [.Name x px] e pos) (IS G W (evS C (cS n S (.Assign [.Name x px] e pos)))) := by
  simp only [cS]
  split
  · rename_i hl
    split
    · rename_i i ce hi hc
      obtain ⟨l1, l2⟩ := loc_of o.x hl
      split
      · rename_i hn
        have hsw : swapsWith e (some (.Name x px)) pos.line X.env = pure false := by
          rcases Bool.or_eq_true _ _ |>.mp hn with hn | hn
          · exact sw_no hn _ _ _
          · refine sw_cell ?_ _
            have e2 : X.env.kindOf x = S.kind x := by show X.env.scope.names.lookup x = _; rw [o.x.scope]; rfl
            rw [e2]
            simpa using hn
        exact ps_setI (by rw [o.x.N]; exact o.x.nd) (by rw [o.x.N]; exact nIx_at hi) l1 ((sound n).1 k X G W C S e ce o.x hc) hsw l2 o.x.pins
      · split
        · split
          · exact set_lc o hi hc (by assumption)
          · exact ps_erI
        · split
          · exact set_dc o hi hc (by assumption)
          · exact ps_erI
        · exact ps_erI
    · exact ps_erI
  · exact ps_erI
theorem ps_parI {i j : Nat} {x y : Str} {a b : Expr} {ca cb : CE} {px py pt pos : Pos} {kt k2 pt2} (hc : X.calm = true) (hN : X.N.Nodup) (hi : X.N[i]? = some x) (hj : X.N[j]? = some y) (hij : i ≠ j) (hx : X.env.scope.names.lookup x = some .local) (hy : X.env.scope.names.lookup y = some .local)
    (ha : PA X [a, b] (IA G W (clos C [ca, cb]))) (hw : swappedStores [.Tuple [.Name x px, .Name y py] kt pt] (.Tuple [a, b] k2 pt2) X.env = pure (some [x, y])) (hpn : ∀ j ∈ G.pn.map (·.1), C.pin.contains j = true) :
    PS X (.Assign [.Tuple [.Name x px, .Name y py] kt pt] (.Tuple [a, b] k2 pt2) pos) (IS G W (evS C (.par i j ca cb))) :=
  ps_by (ps_par hc hN hi hj hij hx hy ha hw rfl) fun D σ H h => by
    obtain ⟨R, F, η, ok, h⟩ := h
    simp only [evS] at h
    refine ia_mono (ia_outS ok h) fun us H1 ⟨F1, η1, os, s1, o1, pl, h1⟩ => ?_
    dsimp only at h1
    split at h1
    · rename_i oa ob
      split at h1
      · exact False.elim h1
      · rename_i hp
        rw [Bool.not_eq_true, Bool.or_eq_false_iff] at hp
        obtain ⟨v, w, rfl, p1, p2⟩ := pls_two pl
        split at h1
        · rename_i s η2 hs
          split at h1
          · rename_i t η3 ht
            split at h1
            · rename_i hl
              have o1' : G.Ok R F1 H1 σ η1 (tms [oa] [v] ++ tms [ob] [w]) := by
                refine Ok.perm ?_ o1
                cases oa <;> cases ob <;> simp [tms]
                exact List.Perm.swap _ _ _
              obtain ⟨F2, s2, o2, kp⟩ := keep_ok o1' rfl (fun i p e _ => p1 i p e) hs
              have o2' : G.Ok R F2 H1 σ η2 (tms [ob] [w] ++ [(v, s)]) := Ok.perm (by
                cases ob <;> simp [tms]
                exact List.Perm.swap _ _ _) o2
              obtain ⟨F3, s3, o3, _⟩ := keep_ok o2' rfl (fun i p e => kp i p w (fun _ => p2 i p e)) ht
              have ni : i ∉ G.pn.map (·.1) := fun m => by rw [hpn i m] at hp; cases hp.1
              have nj : j ∉ G.pn.map (·.1) := fun m => by rw [hpn j m] at hp; cases hp.2
              have o4 := Ok.setSlot (Ok.perm (List.Perm.swap _ _ _) o3) hl.1 ni
              have o5 := Ok.setSlot o4 (by simpa using hl.2) nj
              exact ⟨v, w, rfl, h1 F3 H1 _ (s2.trans s3) o5⟩
            · exact False.elim h1
          · exact False.elim h1
        · exact False.elim h1
    · exact False.elim h1
theorem ps_parC {i j : Nat} {x y : Str} {a b : Expr} {ca cb : CE} {px py pt pos : Pos} {kt k2 pt2} (hc : X.calm = true) (hN : X.N.Nodup) (hi : X.N[i]? = some x) (hj : X.N[j]? = some y) (hx : Loc X.env.scope x) (hy : Loc X.env.scope y)
    (hxf : X.fn x = true ∨ X.env.scope.names.lookup x = some .local) (hyf : X.fn y = true ∨ X.env.scope.names.lookup y = some .local)
    (ha : PA X [a, b] (IA G W (clos C [ca, cb]))) (hw : swappedStores [.Tuple [.Name x px, .Name y py] kt pt] (.Tuple [a, b] k2 pt2) X.env = pure none) (hpn : ∀ j ∈ G.pn.map (·.1), C.pin.contains j = true) :
    PS X (.Assign [.Tuple [.Name x px, .Name y py] kt pt] (.Tuple [a, b] k2 pt2) pos) (IS G W (evS C (.par i j ca cb))) :=
  ps_by (ps_asg (pe_tup ha) (pg_tup hc (pgs_cons (pg_name (i := i) hN hi hx hxf) (pgs_cons (pg_name (i := j) hN hj hy hyf) pgs_nil))) rfl hw rfl) fun D σ H h => by
    obtain ⟨R, F, η, ok, h⟩ := h
    simp only [evS] at h
    refine ia_mono (ia_outS ok h) fun us H1 ⟨F1, η1, os, s1, o1, pl, h1⟩ => ?_
    dsimp only at h1
    split at h1
    · rename_i oa ob
      split at h1
      · exact False.elim h1
      · rename_i hp
        rw [Bool.not_eq_true, Bool.or_eq_false_iff] at hp
        obtain ⟨v, w, rfl, p1, p2⟩ := pls_two pl
        split at h1
        · rename_i s η2 hs
          split at h1
          · rename_i t η3 ht
            split at h1
            · rename_i hl
              have o1' : G.Ok R F1 H1 σ η1 (tms [oa] [v] ++ tms [ob] [w]) := by
                refine Ok.perm ?_ o1
                cases oa <;> cases ob <;> simp [tms]
                exact List.Perm.swap _ _ _
              obtain ⟨F2, s2, o2, kp⟩ := keep_ok o1' rfl (fun i p e _ => p1 i p e) hs
              have o2' : G.Ok R F2 H1 σ η2 (tms [ob] [w] ++ [(v, s)]) := Ok.perm (by
                cases ob <;> simp [tms]
                exact List.Perm.swap _ _ _) o2
              obtain ⟨F3, s3, o3, _⟩ := keep_ok o2' rfl (fun i p e => kp i p w (fun _ => p2 i p e)) ht
              have ni : i ∉ G.pn.map (·.1) := fun m => by rw [hpn i m] at hp; cases hp.1
              have nj : j ∉ G.pn.map (·.1) := fun m => by rw [hpn j m] at hp; cases hp.2
              have o4 := Ok.setSlot (Ok.perm (List.Perm.swap _ _ _) o3) hl.1 ni
              have o5 := Ok.setSlot o4 (by simpa using hl.2) nj
              refine ⟨by show (2 : Nat) ≤ sizeLine; decide, fun p hp0 => ?_⟩
              have sm : Same H1 (upd H1 p (.tup [v, w])) := same_new hp0
              refine ⟨p, [v, w], rfl, .inl (.inl upd_same), rfl, v, [w], rfl, w, [], rfl, rfl, ?_⟩
              exact h1 F3 _ _ (s2.trans s3) (Ok.more o5 (Same.refl _) (o5.same.trans sm) sm fun _ _ _ n => n)
            · exact False.elim h1
          · exact False.elim h1
        · exact False.elim h1
    · exact False.elim h1
theorem par_ok {x y : Str} {px py pt pt2 : Pos} {a b : Expr} {kt k2} (o : BOk k X G W C S) (h : parB S x px y py a b = true) : swappedStores [.Tuple [.Name x px, .Name y py] kt pt] (.Tuple [a, b] k2 pt2) X.env = pure (some [x, y]) := by
  simp only [parB, Bool.and_eq_true, Bool.not_eq_true', beq_iff_eq] at h
  obtain ⟨⟨⟨⟨⟨⟨⟨⟨h1, h2⟩, h3⟩, h4⟩, h5⟩, h6⟩, h7⟩, h8⟩, h9⟩ := h
  have kx : X.env.kindOf x = some .local := by show X.env.scope.names.lookup x = _; rw [o.x.scope]; exact h1
  have ky : X.env.kindOf y = some .local := by show X.env.scope.names.lookup y = _; rw [o.x.scope]; exact h2
  have hb : X.env.blockKind = .function := by unfold Env.blockKind; rw [o.x.scope, h3]; rfl
  have hxy : x ≠ y := by simpa using h5
  have hd : [x, y].eraseDups = [x, y] := by
    simp [List.eraseDups_cons, hxy, Ne.symm hxy]
  have h8' : (foldedForSure 8 a && foldedForSure 8 b) = false := by simpa using h8
  have h9' : (constantsAlone 8 a && constantsAlone 8 b) = false := by simpa using h9
  unfold swappedStores
  simp [hb, kx, ky, Expr.pos, h4.symm, hd, List.filterMap_cons]
  rw [if_neg (by
    rintro (z | z)
    · cases a <;> first | (simp [notStar] at h6; done) | cases z
    · cases b <;> first | (simp [notStar] at h7; done) | cases z), if_neg (by rintro ⟨z1, z2⟩; simp [z1, z2] at h8'), if_neg (by rintro ⟨z1, z2⟩; simp [z1, z2] at h9')]
end
end TV
/-! the translation of statements is right -/
namespace TV
open PySem L2
section
variable {k n : Nat} {X : Cx} {G : Par} {W : WX} {C : Ctx} {S : SC}
theorem sw_sole {e t : Expr} (h : ∀ x p, t ≠ .Name x p) (l : Nat) (env : PySem.Env) : swapsWithSole [t] e l env = pure false := by
  show swapsWith e (some t) l env = pure false
  exact sw_tgt h l env
theorem asg_tup (o : BOk k X G W C S) {es : List Expr} {kk : Nat} {pt pos : Pos} {e : Expr} : PS X (.Assign [.Tuple es kk pt] e pos) (IS G W (evS C (cS n S (.Assign [.Tuple es kk pt] e pos)))) := by
  simp only [cS]
  split
  · rename_i s hs
    unfold cParC at hs
    split at hs
    · rename_i x px y py a b k2 pt2
      split at hs
      · rename_i hh
        simp only [Bool.and_eq_true] at hh
        obtain ⟨⟨⟨⟨q1, q2⟩, q3⟩, q4⟩, q5⟩ := hh
        split at hs
        · rename_i i j ca cb hi hj h1 h2
          split at hs
          · cases hs
          · cases hs
            have hE := (sound n).1
            obtain ⟨l1, l2⟩ := loc_of o.x q1
            obtain ⟨m1, m2⟩ := loc_of o.x q2
            exact ps_parC o.x.calm (by rw [o.x.N]; exact o.x.nd) (by rw [o.x.N]; exact nIx_at hi) (by rw [o.x.N]; exact nIx_at hj) l1 m1 l2 m2
              (pa_consI (f := (pu ca, evE C ca)) (hE k X G W C S a ca o.x h1) (pa_consI (f := (pu cb, evE C cb)) (hE k X G W C S b cb o.x h2) pa_nilI (star_cons q4 _ _)) (star_cons q3 _ _)) (sw_storesN o.x.scope q5) o.x.pins
        · cases hs
      · cases hs
    · cases hs
  split
  · rename_i hn
    split
    · rename_i fts ce hf hc
      exact ps_asgI ((sound n).1 k X G W C S e ce o.x hc) (ok_F o.x o.x.pins _ _ hf) (sw_sole (t := .Tuple es kk pt) (fun _ _ z => Expr.noConfusion z) _ _) (by
        cases e <;> first
          | exact sw_stores rfl _
          | exact sw_storesN o.x.scope (by simpa [noTupE] using hn)) rfl
    · exact ps_erI
  · unfold cPar
    split
    · rename_i x px y py a b k2 pt2 _ _
      split
      · rename_i hp
        split
        · rename_i i j ca cb hi hj h1 h2
          split
          · exact ps_erI
          · rename_i hij
            have hp' := hp
            simp only [parB, Bool.and_eq_true, Bool.not_eq_true', beq_iff_eq] at hp'
            obtain ⟨⟨⟨⟨⟨⟨⟨⟨q1, q2⟩, q3⟩, q4⟩, q5⟩, q6⟩, q7⟩, q8⟩, q9⟩ := hp'
            have hE := (sound n).1
            exact ps_parI o.x.calm (by rw [o.x.N]; exact o.x.nd) (by rw [o.x.N]; exact nIx_at hi) (by rw [o.x.N]; exact nIx_at hj) hij (by rw [o.x.scope]; exact q1) (by rw [o.x.scope]; exact q2)
              (pa_consI (f := (pu ca, evE C ca)) (hE k X G W C S a ca o.x h1) (pa_consI (f := (pu cb, evE C cb)) (hE k X G W C S b cb o.x h2) pa_nilI (star_cons q7 _ _)) (star_cons q6 _ _)) (par_ok o hp) o.x.pins
        · exact ps_erI
      · exact ps_erI
    · exact ps_erI
theorem asg_sub (o : BOk k X G W C S) {a i e : Expr} {pt pos : Pos} : PS X (.Assign [.Subscript a i pt] e pos) (IS G W (evS C (cS n S (.Assign [.Subscript a i pt] e pos)))) := by
  simp only [cS]
  split
  · rename_i hs
    split
    · rename_i co ci ce h1 h2 h3
      have hE := (sound n).1
      exact ps_asgIxI o.x.room (hE k X G W C S a co o.x h1) (hE k X G W C S i ci o.x h2) (hE k X G W C S e ce o.x h3) (fun v => by cases i <;> first | rfl | simp [noSlice] at hs) (sw_sole (t := .Subscript a i pt) (fun _ _ z => Expr.noConfusion z) _ _) (sw_stores2 rfl (fun _ _ z => Expr.noConfusion z) _) rfl
    · exact ps_erI
  · exact ps_erI
theorem asg_att (o : BOk k X G W C S) {a e : Expr} {f : Str} {pt pos : Pos} : PS X (.Assign [.Attribute a f pt] e pos) (IS G W (evS C (cS n S (.Assign [.Attribute a f pt] e pos)))) := by
  simp only [cS]
  split
  · rename_i hf
    split
    · rename_i co ce h1 h2
      have hE := (sound n).1
      exact ps_asgAtI (fun c hc => o.x.att c f hc hf) (hE k X G W C S a co o.x h1) (hE k X G W C S e ce o.x h2) (sw_tgt (t := .Attribute a f pt) (fun _ _ z => Expr.noConfusion z) _ _)
    · exact ps_erI
  · exact ps_erI
theorem asg_all (o : BOk k X G W C S) {ts : List Expr} {e : Expr} {pos : Pos} : PS X (.Assign ts e pos) (IS G W (evS C (cS n S (.Assign ts e pos)))) := by
  cases ts with
  | nil => simp only [cS]; exact ps_erI
  | cons t ts =>
    cases ts with
    | cons u us =>
      have e1 : cS n S (.Assign (t :: u :: us) e pos) = erS := by cases t <;> rfl
      rw [e1]; exact ps_erI
    | nil =>
      cases t with
      | Name x px => exact asg_name o
      | Tuple es kk pt => exact asg_tup o
      | Subscript a i pt => exact asg_sub o
      | Attribute a f pt => exact asg_att o
      | _ => simp only [cS]; exact ps_erI
theorem aug_all (o : BOk k X G W C S) {t e : Expr} {op : Operator} {pos : Pos} : PS X (.AugAssign t op e pos) (IS G W (evS C (cS n S (.AugAssign t op e pos)))) := by
  have hE := (sound n).1
  cases t with
  | Name x px =>
    simp only [cS]
    split
    · rename_i hl
      split
      · rename_i i ce hi hc
        obtain ⟨l1, l2⟩ := loc_of o.x hl
        exact ps_augI (by rw [o.x.N]; exact o.x.nd) (by rw [o.x.N]; exact nIx_at hi) l1 (hE k X G W C S e ce o.x hc) l2 o.x.pins
      · exact ps_erI
    · exact ps_erI
  | Subscript a i pt =>
    simp only [cS]
    split
    · rename_i hs
      split
      · rename_i co ci ce h1 h2 h3
        exact ps_augIxI o.x.room (hE k X G W C S a co o.x h1) (hE k X G W C S i ci o.x h2) (hE k X G W C S e ce o.x h3) (fun _ _ _ => by cases i <;> first | rfl | simp [noSlice] at hs)
      · exact ps_erI
    · exact ps_erI
  | _ => simp only [cS]; exact ps_erI
mutual
theorem sS (o : BOk k X G W C S) : ∀ st : Stmt, PS X st (IS G W (evS C (cS n S st)))
  | .If t a b pos => by
    simp only [cS]
    split
    · rename_i ct h
      exact ps_ifI ((sound n).2.2.2.1 k X G W C S t ct o.x h) (sB o a) (sB o b)
    · exact ps_erI
  | .While t a [] pos => by
    simp only [cS]
    split
    · rename_i ct h
      exact ps_whileI o.po ((sound n).2.2.2.1 k X G W C S t ct o.x h) (sB o a)
    · exact ps_erI
  | .While _ _ (_ :: _) _ => by simp only [cS]; exact ps_erI
  | .For tg iter a [] pos => by
    simp only [cS]
    split
    · rename_i hs
      split
      · rename_i it ft h1 h2
        exact ps_forI o.po o.x.calm ((sound n).2.2.2.2.2.1 k X G W C S tg iter it o.x h1) (ok_F o.x o.x.pins _ _ h2) (sB o a) (fun x => fold_set hs _ x)
      · exact ps_erI
    · exact ps_erI
  | .For _ _ _ (_ :: _) _ => by simp only [cS]; exact ps_erI
  | .Assign ts e pos => asg_all o
  | .AugAssign t op e pos => aug_all o
  | .Expr e pos => by
    simp only [cS]
    split
    · rename_i hn
      split
      · rename_i ce h
        exact ps_exprI ((sound n).1 k X G W C S e ce o.x h) (sw_no hn _ _ _)
      · exact ps_erI
    · exact ps_erI
  | .Return (some e) pos => by
    simp only [cS]
    split
    · rename_i ce h
      exact ps_retI ((sound n).1 k X G W C S e ce o.x h)
    · exact ps_erI
  | .Return none pos => by simp only [cS]; exact ps_retNI
  | .Pass pos => by simp only [cS]; exact ps_passI
  | .Break pos => by simp only [cS]; exact ps_breakI
  | .Continue pos => by simp only [cS]; exact ps_continueI
  | .FunctionDef .. => by simp only [cS]; exact ps_erI
  | .AsyncFunctionDef .. => by simp only [cS]; exact ps_erI
  | .ClassDef .. => by simp only [cS]; exact ps_erI
  | .Delete .. => by simp only [cS]; exact ps_erI
  | .TypeAlias .. => by simp only [cS]; exact ps_erI
  | .AnnAssign .. => by simp only [cS]; exact ps_erI
  | .AsyncFor .. => by simp only [cS]; exact ps_erI
  | .With .. => by simp only [cS]; exact ps_erI
  | .AsyncWith .. => by simp only [cS]; exact ps_erI
  | .Match .. => by simp only [cS]; exact ps_erI
  | .Raise .. => by simp only [cS]; exact ps_erI
  | .Try .. => by simp only [cS]; exact ps_erI
  | .TryStar .. => by simp only [cS]; exact ps_erI
  | .Assert .. => by simp only [cS]; exact ps_erI
  | .Import .. => by simp only [cS]; exact ps_erI
  | .ImportFrom .. => by simp only [cS]; exact ps_erI
  | .Global .. => by simp only [cS]; exact ps_erI
  | .Nonlocal .. => by simp only [cS]; exact ps_erI
theorem sB (o : BOk k X G W C S) : ∀ sts : List Stmt, PSs X sts (IS G W (evB C (cB n S sts)))
  | [] => pss_nilI
  | s :: ss => pss_consI (sS o s) (sB o ss)
end
end
end TV
/-! a program's defs, all at once -/
namespace TV
open PySem L2
/-- a def: its name, its place, its slots, what its callers lend it, its core -/
structure Df where
  top : Bool
  x : Str
  qual : Str
  st : Stmt
  N : List Str
  ps : List Str
  io : List Bool
  b : List CS
structure LawT where
  ds : List Df
  init : Nat → Option Nat
  meth : Nat → Str → Option Nat
  cl : List Nat
  ki : List (Str × Nat)
  kc : List (Str × T)
  eq : List (Pos × Nat)
  fl : List Str
abbrev errF : FS := fun _ => .err
def LawT.io (L : LawT) (j : Nat) : List Bool := match L.ds[j]? with
  | some d => d.io
  | none => []
def LawT.ar (L : LawT) (j : Nat) : Nat := match L.ds[j]? with
  | some d => d.ps.length
  | none => 0
def pinsOf : List Bool → Nat → List Nat
  | [], _ => []
  | true :: bs, i => i :: pinsOf bs (i + 1)
  | false :: bs, i => pinsOf bs (i + 1)
def LawT.ctx (L : LawT) (fs : Nat → FS) (io : List Bool) : Ctx := { fs := fs, io := L.io, init := L.init, meth := L.meth, cl := L.cl, pin := pinsOf io 0 }
/-- the meanings of the first defs -/
def LawT.tab (L : LawT) : Nat → List FS
  | 0 => []
  | i + 1 => L.tab i ++ [match L.ds[i]? with
    | some d => evF (L.ctx (fun j => (L.tab i).getD j errF) d.io) d.io d.N.length d.b
    | none => errF]
def LawT.F (L : LawT) (i : Nat) : FS := (L.tab (i + 1)).getD i errF
theorem tab_len (L : LawT) : ∀ i, (L.tab i).length = i
  | 0 => rfl
  | i + 1 => by simp [LawT.tab, tab_len L i]
theorem tab_get (L : LawT) {j : Nat} : ∀ {i : Nat}, j < i → (L.tab i).getD j errF = L.F j
  | i + 1, h => by
    by_cases e : j = i
    · subst e; rfl
    · have : j < i := by omega
      rw [← tab_get L this]
      simp only [LawT.tab, List.getD_eq_getElem?_getD]
      rw [List.getElem?_append_left (by rw [tab_len]; exact this)]
theorem tab_far (L : LawT) {i j : Nat} (h : i ≤ j) : (L.tab i).getD j errF = errF := by
  rw [List.getD_eq_getElem?_getD, List.getElem?_eq_none (by rw [tab_len]; exact h)]
  rfl
def LawT.C (L : LawT) (i : Nat) (io : List Bool) : Ctx := L.ctx (fun j => if j < i then L.F j else errF) io
theorem F_eq (L : LawT) {i : Nat} {d : Df} (h : L.ds[i]? = some d) : L.F i = evF (L.C i d.io) d.io d.N.length d.b := by
  have : (fun j => (L.tab i).getD j errF) = fun j => if j < i then L.F j else errF := by
    funext j
    split
    · rename_i hj; exact tab_get L hj
    · rename_i hj; exact tab_far L (by omega)
  unfold LawT.F LawT.C
  simp only [LawT.tab, h, List.getD_eq_getElem?_getD]
  rw [List.getElem?_append_right (by rw [tab_len]; exact Nat.le_refl _), tab_len, Nat.sub_self]
  show evF _ _ _ _ = _
  rw [← this]
  simp only [List.getD_eq_getElem?_getD]
/-- the last place (a def that calls itself stands there several times, each time one deeper) -/
def lastIx {α : Type} (p : α → Bool) : List α → Option Nat
  | [] => none
  | a :: l => match lastIx p l with
    | some j => some (j + 1)
    | none => if p a then some 0 else none
theorem lastIx_some {α : Type} {p : α → Bool} : ∀ {l : List α} {j : Nat}, lastIx p l = some j → ∃ h : j < l.length, p l[j] = true
  | [], j, h => by simp [lastIx] at h
  | a :: l, j, h => by
    unfold lastIx at h
    split at h
    · rename_i k hk
      cases h
      obtain ⟨h1, h2⟩ := lastIx_some hk
      exact ⟨by simpa using h1, by simpa using h2⟩
    · split at h
      · rename_i hp; cases h; exact ⟨by simp, hp⟩
      · cases h
/-- what is known in the i-th def -/
def LawT.S (L : LawT) (i : Nat) (d : Df) : SC where
  N := d.N
  sc := defScope d.st
  blk := none
  fi := fun x => (lastIx (fun d => d.top && d.x == x) (L.ds.take i)).map fun (j : Nat) => (j, L.ar j)
  ki := fun x => (L.ki.find? (fun y => y.1 == x)).bind fun y => (L.init y.2).bind fun (j : Nat) => if j < i then some (y.2, L.ar j) else none
  kc := fun x => (L.kc.find? (fun y => y.1 == x)).map (·.2)
  eq := fun p => (L.eq.find? (fun y => y.1 == p)).bind fun y => (L.meth y.2 "__eq__").bind fun (j : Nat) => if j < i then some y.2 else none
  pin := pinsOf d.io 0
  fl := L.fl
structure Sta (L : LawT) (i : Nat) (d : Df) : Prop where
  sc : FnScope d.N d.ps (defScope d.st)
  core : cB 40 (L.S i d) (defBody d.st) = d.b
  io : d.io.length ≤ d.ps.length
  np : d.ps.length ≤ d.N.length
  bd : ∀ (kV doc pm : Value) (an : Option Addr) (cdv ct : Value) (us : List Value), us.length = d.ps.length → bindArgs (PySem.W.fnOf d.x d.qual (defArgs d.st) (defBody d.st) (defScope d.st) .none kV doc pm an cdv ct) ⟨us, []⟩ = pure (d.ps.zip us)
inductive Stas (L : LawT) : Nat → List Df → Prop
  | nil {i} : Stas L i []
  | cons {i d ds} : Sta L i d → Stas L (i + 1) ds → Stas L i (d :: ds)
theorem Stas.at {L : LawT} : ∀ {i : Nat} {ds : List Df}, Stas L i ds → ∀ {j : Nat} {d : Df}, ds[j]? = some d → Sta L (i + j) d
  | _, _, .nil, j, d, h => by simp at h
  | i, _, .cons a r, 0, d, h => by simp at h; subst h; exact a
  | i, _, .cons a r, j + 1, d, h => by
    have := Stas.at r (j := j) (d := d) (by simpa using h)
    rwa [show i + 1 + j = i + (j + 1) by omega] at this
section
variable {K : PySem.W.Frag} {mg : Str → Option Value} {base : Heap} {P : Program} {w : World} {G : Par} {L : LawT}
/-- a def as the top has left it -/
def DefF (K : PySem.W.Frag) (d : Df) (f : Addr) : Prop := ∃ fd, Fun K d.x d.qual d.st f fd
def TopF (K : PySem.W.Frag) (mg : Str → Option Value) (d : Df) : Prop := ∃ f, mg d.x = some (.ref f) ∧ DefF K d f
def MetF (K : PySem.W.Frag) (C : Addr) (d : Df) (f : Addr) : Prop := PySem.W.findIn K (.ref C) d.x = some (some (.ref f)) ∧ PySem.W.isFn K (.ref f) = true ∧ DefF K d f
theorem defF_mk {d : Df} {f : Addr} {oc : Value} {od an : Option Addr} {osl : Array (Option Value)} {kV doc pm cdv ct : Value} (l : K.lookup f = some ⟨oc, od, .func (PySem.W.fnOf d.x d.qual (defArgs d.st) (defBody d.st) (defScope d.st) .none kV doc pm an cdv ct), osl⟩)
    (c : PySem.W.codeIn K cdv d.qual = true) (k : PySem.W.keepIn K (.ref f) = true) : DefF K d f := ⟨_, fun_mk l c k⟩
/-- what of the program stands in the heap -/
structure Facts (K : PySem.W.Frag) (mg : Str → Option Value) (G : Par) (L : LawT) : Prop where
  tops : ∀ d ∈ L.ds, d.top = true → TopF K mg d
  blt : ∀ x ∈ bltNames, mg x = none
  mks : ∀ x c, (x, c) ∈ L.ki → mg x = some (.ref (G.ca c)) ∧ ∀ j d, L.init c = some j → L.ds[j]? = some d → d.io.head? = some true ∧ d.x = "__init__" ∧ PySem.W.makesIn K (G.ca c) = true ∧ PySem.W.keepIn K (.ref (G.ca c)) = true ∧ ∃ f, MetF K (G.ca c) d f
  kcs : ∀ x t, (x, t) ∈ L.kc → t.fz = true ∧ ∃ v u, mg x = some u ∧ L2.RelV v u ∧ ∀ F, View G.ca F t v
  clI : ∀ c, L.cl.contains c = true → ClsI K (G.ca c)
  kit : ∀ a b, tyIn L.cl a = true → tyIn L.cl b = true → PySem.W.kitOne K (tyV G a) (tyV G b) = some (kitN a b)
  att : ∀ c f, L.cl.contains c = true → L.fl.contains f = true → NoAttr K (G.ca c) f
  eqs : ∀ p c, (p, c) ∈ L.eq → L.cl.contains c = true ∧ ∀ j d, L.meth c "__eq__" = some j → L.ds[j]? = some d → d.x = "__eq__" ∧ d.ps.length = 2 ∧ (∃ f, MetF K (G.ca c) d f) ∧ PySem.W.findIn K (.ref (G.ca c)) "__ne__" = some (some (.builtin "object.__ne__"))
theorem pins_of : ∀ {bs : List Bool} {vs : List V} {i j : Nat}, j ∈ (ioPn bs vs i).map (·.1) → (pinsOf bs i).contains j = true
  | [], vs, i, j, h => by simp [ioPn] at h
  | true :: bs, [], i, j, h => by simp [ioPn] at h
  | false :: bs, [], i, j, h => by simp [ioPn] at h
  | true :: bs, v :: vs, i, j, h => by
    simp only [ioPn, List.map_cons, List.mem_cons] at h
    simp only [pinsOf, List.contains_cons, Bool.or_eq_true, beq_iff_eq]
    exact h.imp id pins_of
  | false :: bs, v :: vs, i, j, h => by
    simp only [ioPn] at h
    simp only [pinsOf]
    exact pins_of h
theorem io_at {i : Nat} {d : Df} (h : L.ds[i]? = some d) : L.io i = d.io := by unfold LawT.io; rw [h]
theorem ar_at {i : Nat} {d : Df} (h : L.ds[i]? = some d) : L.ar i = d.ps.length := by unfold LawT.ar; rw [h]
theorem find_mem {α : Type} [BEq α] [LawfulBEq α] {β : Type} {l : List (α × β)} {x : α} {y : α × β} (h : l.find? (fun z => z.1 == x) = some y) : (x, y.2) ∈ l := by
  have h1 := List.mem_of_find?_eq_some h
  have h2 := List.find?_some h
  obtain ⟨a, b⟩ := y
  obtain rfl : a = x := by simpa using h2
  exact h1
/-- every def keeps its promise -/
theorem all_ok (hs : Stas L 0 L.ds) (hf : Facts K mg G L) : ∀ (i : Nat) (d : Df), L.ds[i]? = some d → ∀ f fd, Fun K d.x d.qual d.st f fd → FnOk P w K mg base (L2.CX P w) (2 * i + 2) f fd d.ps (spF G d.io (L.F i) d.ps.length) := by
  intro i
  induction i using Nat.strongRecOn with
  | ind i ih =>
  intro d hd f fd F
  have st : Sta L i d := by simpa using hs.at hd
  have hfs : ∀ {j : Nat}, j < i → (L.C i d.io).fs j = L.F j := fun {j} hj => by
    show (if j < i then _ else _) = _
    rw [if_pos hj]
  have hle : ∀ {j : Nat}, j < i → ∀ {d' : Df}, L.ds[j]? = some d' → ∀ f fd, Fun K d'.x d'.qual d'.st f fd → FnOk P w K mg base (L2.CX P w) (2 * i) f fd d'.ps (spF G ((L.C i d.io).io j) ((L.C i d.io).fs j) d'.ps.length) := by
    intro j hj d' hd' f fd F
    have := (ih j hj d' hd' f fd F).mono (show 2 * j + 2 ≤ 2 * i by omega)
    rw [hfs hj, show (L.C i d.io).io j = d'.io from io_at hd']
    exact this
  have hbd : ∀ {j : Nat} {d' : Df}, L.ds[j]? = some d' → ∀ {f fd}, Fun K d'.x d'.qual d'.st f fd → Binds K fd d'.ps [] := fun {j d'} hd' {f fd} F => by
    have st' : Sta L j d' := by simpa using hs.at hd'
    exact F.binds st'.bd
  rw [F_eq L hd]
  refine fn_okI F st.sc st.io st.np fun cdv A outer s H vs E hr => ?_
  rw [← st.core]
  refine sB (k := 2 * i) ⟨{
    N := rfl
    nd := st.sc.nd
    scope := rfl
    calm := rfl
    fn := fun _ _ => .inl rfl
    room := hr
    blt := hf.blt
    hx := fun σ => passAt (takes_of rfl rfl rfl rfl) σ
    pins := fun j hj => pins_of hj
    fns := ?_
    mks := ?_
    kcs := ?_
    clI := hf.clI
    kit := hf.kit
    att := fun c f hc hf' => ⟨(hf.clI c hc).cl, hf.att c f hc hf'⟩
    eqs := ?_ }, passes_of rfl, st.sc.kind⟩ _
  · intro x j hj
    obtain ⟨m, h1, rfl⟩ := Option.map_eq_some_iff.mp hj
    obtain ⟨h2, h3⟩ := lastIx_some h1
    rw [List.length_take] at h2
    have hm : m < i := by omega
    have hml : m < L.ds.length := by omega
    rw [List.getElem_take, Bool.and_eq_true] at h3
    obtain ⟨ht, hx⟩ := h3
    obtain rfl := eq_of_beq hx
    have hd' : L.ds[m]? = some L.ds[m] := List.getElem?_eq_getElem hml
    obtain ⟨f', hmg, fd', F'⟩ := hf.tops _ (List.getElem_mem hml) ht
    exact ⟨f', fd', _, hle hm hd' f' fd' F', (ar_at hd').symm, hmg, F'.kp, hbd hd' F'⟩
  · intro x c hc
    obtain ⟨y, h1, h2⟩ := Option.bind_eq_some_iff.mp hc
    obtain ⟨j, h3, h4⟩ := Option.bind_eq_some_iff.mp h2
    split at h4
    · rename_i hj
      cases h4
      obtain ⟨hmg, hk⟩ := hf.mks x y.2 (find_mem h1)
      have hil : i < L.ds.length := (List.getElem?_eq_some_iff.mp hd).1
      have hd' : L.ds[j]? = some L.ds[j] := List.getElem?_eq_getElem (by omega)
      obtain ⟨hio, hxn, mk, kp, f', a, isf, fd', F'⟩ := hk j _ h3 hd'
      refine ⟨hmg, f', fd', _, j, L.ds[j].io.tail, ⟨mk, by rw [← hxn]; exact a, isf, kp⟩, ?_, (ar_at hd').symm, hbd hd' F', h3, ?_⟩
      · have e : L.ds[j].io = true :: L.ds[j].io.tail := by
          cases e : L.ds[j].io with
          | nil => rw [e] at hio; cases hio
          | cons a r => rw [e] at hio; cases hio; rfl
        have := hle hj hd' f' fd' F'
        rw [show (L.C i d.io).io j = L.ds[j].io from io_at hd', e] at this
        exact this
      · show L.io j = _
        rw [io_at hd']
        cases e : L.ds[j].io with
        | nil => rw [e] at hio; cases hio
        | cons a r => rw [e] at hio; cases hio; rfl
    · cases h4
  · intro x t ht
    obtain ⟨y, h1, rfl⟩ := Option.map_eq_some_iff.mp ht
    exact hf.kcs x y.2 (find_mem h1)
  · intro p c hc
    obtain ⟨y, h1, h2⟩ := Option.bind_eq_some_iff.mp hc
    obtain ⟨j, h3, h4⟩ := Option.bind_eq_some_iff.mp h2
    split at h4
    · rename_i hj
      cases h4
      have hil : i < L.ds.length := (List.getElem?_eq_some_iff.mp hd).1
      have hd' : L.ds[j]? = some L.ds[j] := List.getElem?_eq_getElem (by omega)
      obtain ⟨hcl, hk⟩ := hf.eqs p y.2 (find_mem h1)
      obtain ⟨hxn, hl, ⟨f', a, isf, fd', F'⟩, hne⟩ := hk j _ h3 hd'
      refine ⟨j, f', fd', _, ?_, by rw [← hxn]; exact a, hne, (hf.clI _ hcl).hm, isf, hbd hd' F', h3⟩
      have := hle hj hd' f' fd' F'
      rw [hl] at this
      exact this
    · cases h4
end
end TV
/-! numbers, pairs, tuples as trees -/
namespace TV
open PySem L2
class Enc (α : Type) [DecidableEq α] where
  enc : α → T
  lt : α → α → Bool
  dp : Nat
  fz : ∀ a, (enc a).fz = true
  pl : ∀ a, (enc a).toD.plain = true
  dep : ∀ a, (enc a).toD.depth ≤ dp
  eq : ∀ a b, PyData.eqv (enc a).toD (enc b).toD = decide (a = b)
  ltE : ∀ a b, ltT (enc a) (enc b) = lt a b
  al : ∀ a b, PySem.W.alike (enc a).toD (enc b).toD = true
  nn : ∀ a, (enc a).isNon = false
  irr : ∀ a, lt a a = false
  tr : ∀ a b c, lt a b = true → lt b c = true → lt a c = true
  co : ∀ a b, lt a b = false → lt b a = false → a = b
open Enc (enc)
section
variable {α β : Type} [DecidableEq α] [Enc α] [DecidableEq β] [Enc β]
theorem fzs_enc (l : List α) : fzs (l.map enc) = true := fzs_of fun t h => by
  obtain ⟨a, _, rfl⟩ := List.mem_map.mp h
  exact Enc.fz a
theorem frzs_enc (l : List α) : frzs (l.map enc) = l.map enc := frzs_id _ (fzs_enc l)
theorem eqvAll_enc : ∀ l m : List α, PyData.eqvAll (toDs (l.map enc)) (toDs (m.map enc)) = decide (l = m)
  | [], [] => by simp [toDs, PyData.eqvAll]
  | [], b :: m => by simp [toDs, PyData.eqvAll]
  | a :: l, [] => by simp [toDs, PyData.eqvAll]
  | a :: l, b :: m => by
    simp only [List.map_cons, toDs, PyData.eqvAll, Enc.eq, eqvAll_enc l m]
    by_cases h : a = b <;> by_cases h2 : l = m <;> simp [h, h2]
theorem alikeAll_enc : ∀ l m : List α, PySem.W.alikeAll (toDs (l.map enc)) (toDs (m.map enc)) = true
  | [], [] => by simp [toDs, PySem.W.alikeAll]
  | [], b :: m => by simp [toDs, PySem.W.alikeAll]
  | a :: l, [] => by simp [toDs, PySem.W.alikeAll]
  | a :: l, b :: m => by simp [toDs, PySem.W.alikeAll, Enc.al, alikeAll_enc l m]
theorem plainAll_enc : ∀ l : List α, PyData.plainAll (toDs (l.map enc)) = true
  | [] => by simp [toDs, PyData.plainAll]
  | a :: l => by simp [toDs, PyData.plainAll, Enc.pl, plainAll_enc l]
theorem depthAll_enc : ∀ l : List α, PyData.depthAll (toDs (l.map enc)) ≤ Enc.dp α
  | [] => by simp [toDs, PyData.depthAll]
  | a :: l => by
    simp only [List.map_cons, toDs, PyData.depthAll]
    have := Enc.dep a; have := depthAll_enc l
    omega
def lltB (lt : α → α → Bool) : List α → List α → Bool
  | [], [] => false
  | [], _ :: _ => true
  | _ :: _, [] => false
  | a :: l, b :: m => if a = b then lltB lt l m else lt a b
theorem lex_enc : ∀ l m : List α, PyProof.Rows.lexLt PyProof.Rows.itemOrd (PySem.W.keyToksAll (toDs (l.map enc))) (PySem.W.keyToksAll (toDs (m.map enc))) = lltB Enc.lt l m
  | [], [] => by simp only [List.map_nil, toDs, PySem.W.keyToksAll, lltB]; decide
  | [], b :: m => by
    simp only [List.map_nil, List.map_cons, toDs, PySem.W.keyToksAll, lltB]
    rw [PySem.W.lex_atom (by simp), PySem.W.lex_one]; decide
  | a :: l, [] => by
    simp only [List.map_nil, List.map_cons, toDs, PySem.W.keyToksAll, lltB]
    rw [PySem.W.lex_atom (by simp), PySem.W.lex_one]; decide
  | a :: l, b :: m => by
    simp only [List.map_cons, toDs, lltB]
    rw [PySem.W.dataLt_cons (Enc.al a b), Enc.eq]
    by_cases h : a = b
    · simp only [h, decide_true, if_true]; exact lex_enc l m
    · simp only [h, decide_false, Bool.false_eq_true, if_false]; exact Enc.ltE a b
end
instance : Enc Nat where
  enc n := .int n
  lt a b := decide (a < b)
  dp := 0
  fz _ := rfl
  pl _ := by simp [T.toD, PyData.plain]
  dep _ := by simp [T.toD, PyData.depth]
  eq a b := by simp only [T.toD, PyData.eqv]; by_cases h : a = b <;> simp [h]; omega
  ltE a b := by simp only [ltT, T.toD, PySem.W.dataLt_int]; simp
  al a b := by simp [T.toD, PySem.W.alike]
  nn _ := rfl
  irr a := by simp
  tr a b c := by simp; omega
  co a b := by simp; omega
instance [DecidableEq α] [Enc α] [DecidableEq β] [Enc β] : Enc (α × β) where
  enc p := .tup [enc p.1, enc p.2]
  lt p q := if p.1 = q.1 then Enc.lt p.2 q.2 else Enc.lt p.1 q.1
  dp := max (Enc.dp α) (Enc.dp β) + 1
  fz p := by simp [T.fz, fzs, Enc.fz]
  pl p := by simp [T.toD, toDs, PyData.plain, PyData.plainAll, Enc.pl]
  dep p := by
    simp only [T.toD, toDs, PyData.depth, PyData.depthAll]
    have := Enc.dep p.1; have := Enc.dep p.2
    omega
  eq p q := by
    obtain ⟨a, b⟩ := p; obtain ⟨c, d⟩ := q
    simp only [T.toD, toDs, PyData.eqv, PyData.eqvAll, Enc.eq, Prod.mk.injEq, Bool.and_true]
    by_cases h : a = c <;> by_cases h2 : b = d <;> simp [h, h2]
  ltE p q := by
    obtain ⟨a, b⟩ := p; obtain ⟨c, d⟩ := q
    simp only [ltT, T.toD, toDs]
    rw [PySem.W.dataLt_pair (Enc.al a c) (Enc.al b d), Enc.eq, Enc.eq]
    by_cases h : a = c
    · simp only [h, decide_true, if_true]
      by_cases h2 : b = d
      · simp [h2, Enc.irr]
      · simp only [h2, decide_false, Bool.false_eq_true, if_false]; exact Enc.ltE b d
    · simp only [h, decide_false, Bool.false_eq_true, if_false]; exact Enc.ltE a c
  al p q := by simp [T.toD, toDs, PySem.W.alike, PySem.W.alikeAll, Enc.al]
  nn _ := rfl
  irr p := by simp [Enc.irr]
  tr p q r := by
    obtain ⟨a, b⟩ := p; obtain ⟨c, d⟩ := q; obtain ⟨e, f⟩ := r
    dsimp only
    intro h1 h2
    by_cases x : a = c
    · subst x
      by_cases y : a = e
      · subst y; simp only [if_true] at *; exact Enc.tr _ _ _ h1 h2
      · simp only [y, if_false, if_true] at *; exact h2
    · by_cases y : c = e
      · subst y; simp only [x, if_false, if_true] at *; exact h1
      · simp only [x, y, if_false] at *
        have h3 := Enc.tr _ _ _ h1 h2
        by_cases z : a = e
        · subst z; rw [Enc.irr] at h3; cases h3
        · simp only [z, if_false]; exact h3
  co p q := by
    obtain ⟨a, b⟩ := p; obtain ⟨c, d⟩ := q
    dsimp only
    intro h1 h2
    by_cases x : a = c
    · subst x; simp only [if_true] at *; rw [Enc.co b d h1 h2]
    · rw [if_neg x] at h1; rw [if_neg (Ne.symm x)] at h2; exact absurd (Enc.co a c h1 h2) x
section
variable {α β : Type} [DecidableEq α] [Enc α]
theorem llt_irr : ∀ l : List α, lltB Enc.lt l l = false
  | [] => rfl
  | a :: l => by simp [lltB, llt_irr l]
theorem llt_tr : ∀ l m k : List α, lltB Enc.lt l m = true → lltB Enc.lt m k = true → lltB Enc.lt l k = true
  | [], [], _, h, _ => by simp [lltB] at h
  | _ :: _, [], _, h, _ => by simp [lltB] at h
  | _, _ :: _, [], _, h => by simp [lltB] at h
  | [], b :: m, c :: k, _, _ => rfl
  | a :: l, b :: m, c :: k, h1, h2 => by
    simp only [lltB] at *
    by_cases x : a = b
    · subst x
      by_cases y : a = c
      · subst y; simp only [if_true] at *; exact llt_tr _ _ _ h1 h2
      · simp only [y, if_false, if_true] at *; exact h2
    · by_cases y : b = c
      · subst y; simp only [x, if_false, if_true] at *; exact h1
      · simp only [x, y, if_false] at *
        have h3 := Enc.tr _ _ _ h1 h2
        by_cases z : a = c
        · subst z; rw [Enc.irr] at h3; cases h3
        · simp only [z, if_false]; exact h3
theorem llt_co : ∀ l m : List α, lltB Enc.lt l m = false → lltB Enc.lt m l = false → l = m
  | [], [], _, _ => rfl
  | [], _ :: _, h, _ => by simp [lltB] at h
  | _ :: _, [], _, h => by simp [lltB] at h
  | a :: l, b :: m, h1, h2 => by
    simp only [lltB] at *
    by_cases x : a = b
    · subst x; simp only [if_true] at *; rw [llt_co _ _ h1 h2]
    · rw [if_neg x] at h1; rw [if_neg (Ne.symm x)] at h2; exact absurd (Enc.co a b h1 h2) x
instance : Enc (List α) where
  enc l := .tup (l.map enc)
  lt := lltB Enc.lt
  dp := Enc.dp α + 1
  fz l := by simp only [T.fz]; exact fzs_enc l
  pl l := by simp only [T.toD, PyData.plain]; exact plainAll_enc l
  dep l := by simp only [T.toD, PyData.depth]; have := depthAll_enc l; omega
  eq l m := by simp only [T.toD, PyData.eqv]; exact eqvAll_enc l m
  ltE l m := by simp only [ltT, T.toD, PySem.W.dataLt_tuple]; exact lex_enc l m
  al l m := by simp only [T.toD, PySem.W.alike]; exact alikeAll_enc l m
  nn _ := rfl
  irr := llt_irr
  tr := llt_tr
  co := llt_co
end
/-! ### what of it the language asks -/
section
variable {α β : Type} [DecidableEq α] [Enc α] [DecidableEq β] [Enc β]
@[simp] theorem enc_nat (n : Nat) : (enc n : T) = .int n := rfl
theorem enc_pair (p : α × β) : (enc p : T) = .tup [enc p.1, enc p.2] := rfl
theorem enc_list (l : List α) : (enc l : T) = .tup (l.map enc) := rfl
theorem eqT_enc (a b : α) : eqT (enc a) (enc b) = decide (a = b) := Enc.eq a b
theorem eqT_lst (o q : Bool) (l m : List α) : eqT (.lst o (l.map enc)) (.lst q (m.map enc)) = decide (l = m) := by
  simp only [eqT, T.toD, PyData.eqv]; exact eqvAll_enc l m
theorem eqT_tup (l m : List α) : eqT (.tup (l.map enc)) (.tup (m.map enc)) = decide (l = m) := eqT_enc l m
theorem data_enc (h : Enc.dp α ≤ 60) (a : α) : (enc a : T).data = true := by
  unfold T.data
  rw [Enc.pl, Bool.true_and, decide_eq_true_eq]
  exact Nat.le_trans (Enc.dep a) h
theorem data_tup (h : Enc.dp α ≤ 59) (l : List α) : (T.tup (l.map enc)).data = true := data_enc (α := List α) (by show Enc.dp α + 1 ≤ 60; omega) l
theorem data_lst (h : Enc.dp α ≤ 59) (o : Bool) (l : List α) : (T.lst o (l.map enc)).data = true := by
  unfold T.data
  rw [Bool.and_eq_true, decide_eq_true_eq]
  constructor
  · simp only [T.toD, PyData.plain]; exact plainAll_enc l
  · simp only [T.toD, PyData.depth]; have := depthAll_enc l; omega
def leE (a b : α) : Bool := !Enc.lt b a
/-- sorted, ascending -/
def srt (l : List α) : List α := l.mergeSort leE
theorem sortT_enc (l : List α) : sortT (l.map enc) = (srt l).map enc := by
  unfold sortT srt
  rw [List.map_mergeSort]
  intro a _ b _
  show leE a b = !ltT (enc b) (enc a)
  rw [Enc.ltE]; rfl
theorem leE_tr (a b c : α) (h1 : leE a b = true) (h2 : leE b c = true) : leE a c = true := by
  unfold leE at *
  simp only [Bool.not_eq_true'] at *
  cases e : Enc.lt c a with
  | false => rfl
  | true =>
    exfalso
    by_cases x : a = b
    · subst x; rw [e] at h2; cases h2
    · have : Enc.lt a b = true := by
        cases e2 : Enc.lt a b with
        | true => rfl
        | false => exact absurd (Enc.co a b e2 h1) x
      rw [Enc.tr _ _ _ e this] at h2; cases h2
theorem leE_tot (a b : α) : (leE a b || leE b a) = true := by
  unfold leE
  cases e : Enc.lt b a with
  | false => rfl
  | true =>
    cases e2 : Enc.lt a b with
    | false => rfl
    | true => have := Enc.tr _ _ _ e e2; rw [Enc.irr] at this; cases this
theorem leE_anti (a b : α) (h1 : leE a b = true) (h2 : leE b a = true) : a = b := by
  unfold leE at *
  simp only [Bool.not_eq_true'] at *
  exact Enc.co a b h2 h1
theorem srt_perm (l : List α) : (srt l).Perm l := List.mergeSort_perm l _
theorem srt_sorted (l : List α) : (srt l).Pairwise fun a b => leE a b = true := List.pairwise_mergeSort leE_tr leE_tot l
theorem mem_srt {l : List α} {a : α} : a ∈ srt l ↔ a ∈ l := (srt_perm l).mem_iff
theorem perm_sorted : ∀ {l m : List α}, l.Perm m → (l.Pairwise fun a b => leE a b = true) → (m.Pairwise fun a b => leE a b = true) → l = m
  | [], m, h, _, _ => by simpa using h.symm.eq_nil
  | a :: l, [], h, _, _ => by simpa using h.eq_nil
  | a :: l, b :: m, h, h1, h2 => by
    rw [List.pairwise_cons] at h1 h2
    have e : a = b := by
      have ha : a ∈ b :: m := h.mem_iff.mp (by simp)
      have hb : b ∈ a :: l := h.mem_iff.mpr (by simp)
      rcases List.mem_cons.mp ha with e | ha
      · exact e
      · rcases List.mem_cons.mp hb with e | hb
        · exact e.symm
        · exact leE_anti a b (h1.1 b hb) (h2.1 a ha)
    subst e
    rw [perm_sorted ((List.perm_cons a).mp h) h1.2 h2.2]
theorem srt_eq {l m : List α} (h : l.Perm m) : srt l = srt m := perm_sorted ((srt_perm l).trans (h.trans (srt_perm m).symm)) (srt_sorted l) (srt_sorted m)
theorem srt_id {l : List α} (h : l.Pairwise fun a b => leE a b = true) : srt l = l := perm_sorted (srt_perm l) (srt_sorted l) h
theorem srt_srt (l : List α) : srt (srt l) = srt l := srt_id (srt_sorted l)
theorem srt_len (l : List α) : (srt l).length = l.length := (srt_perm l).length_eq
theorem srt_nodup {l : List α} (h : l.Nodup) : (srt l).Nodup := (srt_perm l).nodup_iff.mpr h
end
theorem sortOk_pairs {α β : Type} [DecidableEq α] [Enc α] [DecidableEq β] [Enc β] (h : Enc.dp (α × β) ≤ 60) (l : List (α × β)) : sortOk (l.map enc) = true := by
  unfold sortOk
  simp only [Bool.and_eq_true, Bool.or_eq_true, List.all_map, List.all_eq_true, Function.comp]
  refine ⟨⟨fun a _ => ?_, fun a _ b _ => Enc.al a b⟩, .inl fun a _ => rfl⟩
  rw [data_enc h, Enc.nn]; exact ⟨rfl, rfl⟩
theorem sortOk_nats (l : List Nat) : sortOk (l.map enc) = true := by
  unfold sortOk
  simp only [Bool.and_eq_true, Bool.or_eq_true, List.all_map, List.all_eq_true, Function.comp]
  refine ⟨⟨fun a _ => ?_, fun a _ b _ => Enc.al a b⟩, .inr fun a _ => rfl⟩
  rw [data_enc (by decide), Enc.nn]; exact ⟨rfl, rfl⟩
end TV
/-! the ends: what the top has left, the law's promise -/
namespace TV
open PySem L2
def isLstV : Value → Bool
  | .type s => s == "list"
  | _ => false
/-- no object of the written part is a list -/
def noLst (K : PySem.W.Frag) : Bool := K.all fun p => !isLstV p.2.cls
theorem lookup_mem {K : PySem.W.Frag} {a : Addr} {o : Obj} (h : K.lookup a = some o) : ∃ b, (b, o) ∈ K := by
  induction K with
  | nil => simp at h
  | cons p r ih =>
    obtain ⟨b, u⟩ := p
    rw [List.lookup_cons] at h
    split at h
    · cases h; exact ⟨b, by simp⟩
    · obtain ⟨c, hc⟩ := ih h
      exact ⟨c, by simp [hc]⟩
theorem noLst_seq {K : PySem.W.Frag} (hK : noLst K = true) {H : Hp} {a : Addr} {xs : List V} (h : SqL K H a xs) : Rd H a (.lst xs) := by
  rcases h with h | ⟨o, its, n, l, c, _⟩
  · exact h
  · obtain ⟨b, hb⟩ := lookup_mem l
    have := List.all_eq_true.mp hK _ hb
    rw [c] at this
    simp [isLstV] at this
/-- the law's promise: the script in, True out -/
def spL (K : PySem.W.Frag) : Sp := fun vs H Q _ => ∃ (a : Addr) (ns : List Int), vs = [.ref a] ∧ SqL K H a (ns.map V.int) ∧ ns.length ≤ 63 ∧ ∀ H', Q (.bl true) H'
theorem views_intL {ca : Nat → Addr} {F : Hp} : ∀ l : List Int, Views ca F (l.map T.int) (l.map V.int)
  | [] => by simp [Views]
  | i :: l => by
    simp only [List.map_cons, Views]
    exact ⟨_, _, rfl, by simp [View], views_intL l⟩
theorem fzs_intL : ∀ l : List Int, fzs (l.map T.int) = true
  | [] => rfl
  | i :: l => by simp [fzs, T.fz, fzs_intL l]
theorem spL_spF {K : PySem.W.Frag} {G : Par} {m : FS} (hK : noLst K = true) (hm : ∀ ns : List Int, ns.length ≤ 63 → m [.lst false (ns.map T.int)] = .ok (.bl true, [])) (vs : List V) (H : Hp) (Q : VK) (E : XK) (h : spL K vs H Q E) : spF G [] m 1 vs H Q E := by
  obtain ⟨a, ns, rfl, hS, hl, q⟩ := h
  refine ⟨rfl, H, [.lst false (ns.map T.int)], [], Same.refl H, ?_, fun a => by simp, fun a ha => by simp at ha, fun k t hk _ => ?_, ?_⟩
  · simp only [Owns]
    refine ⟨_, [], [], [], rfl, rfl, ?_, rfl, rfl⟩
    simp only [Own, View]
    exact ⟨trivial, fzs_intL ns, a, _, rfl, noLst_seq hK hS, views_intL ns⟩
  · cases k with
    | zero => simp at hk; subst hk; simp [T.fz, fzs_intL]
    | succ k => simp at hk
  · rw [hm ns hl]
    intro F' H' v ar ao _ _ _ w _ _ _
    simp only [Own] at w
    obtain ⟨_, rfl⟩ := w
    exact q H'
section
variable {K : PySem.W.Frag} {mg : Str → Option Value} {h : Heap}
theorem topF_mk {d : Df} {f : Addr} {x q : Str} {oc : Value} {od an : Option Addr} {osl : Array (Option Value)} {kV doc pm cdv ct : Value} (X : K.In h) (G : h.Ns mainGlobals mg) (hx : d.x = x) (hq : d.qual = q)
    (a : PySem.W.nsIn K mainGlobals x = some (some (.ref f))) (l : K.lookup f = some ⟨oc, od, .func (PySem.W.fnOf x q (defArgs d.st) (defBody d.st) (defScope d.st) .none kV doc pm an cdv ct), osl⟩)
    (c : PySem.W.codeIn K cdv q = true) (k : PySem.W.keepIn K (.ref f) = true) : TopF K mg d := by
  subst hx; subst hq
  exact ⟨f, PySem.W.mg_of X G a, defF_mk l c k⟩
theorem metF_mk {C : Addr} {d : Df} {f : Addr} {x q : Str} {oc : Value} {od an : Option Addr} {osl : Array (Option Value)} {kV doc pm cdv ct : Value} (hx : d.x = x) (hq : d.qual = q)
    (a : PySem.W.findIn K (.ref C) x = some (some (.ref f))) (i : PySem.W.isFn K (.ref f) = true) (l : K.lookup f = some ⟨oc, od, .func (PySem.W.fnOf x q (defArgs d.st) (defBody d.st) (defScope d.st) .none kV doc pm an cdv ct), osl⟩)
    (c : PySem.W.codeIn K cdv q = true) (k : PySem.W.keepIn K (.ref f) = true) : ∃ f, MetF K C d f := by
  subst hx; subst hq
  exact ⟨f, a, i, defF_mk l c k⟩
def TopsF (K : PySem.W.Frag) (mg : Str → Option Value) : List Df → Prop
  | [] => True
  | d :: ds => (d.top = true → TopF K mg d) ∧ TopsF K mg ds
theorem tops_mem : ∀ {ds : List Df}, TopsF K mg ds → ∀ d ∈ ds, d.top = true → TopF K mg d
  | _ :: _, h, d, hd, ht => by
    rcases List.mem_cons.mp hd with rfl | hd
    · exact h.1 ht
    · exact tops_mem h.2 d hd ht
def BltF (K : PySem.W.Frag) : List Str → Prop
  | [] => True
  | x :: xs => PySem.W.nsIn K mainGlobals x = some none ∧ BltF K xs
theorem blt_mem (X : K.In h) (G : h.Ns mainGlobals mg) : ∀ {xs : List Str}, BltF K xs → ∀ x ∈ xs, mg x = none
  | _ :: _, hb, x, hx => by
    rcases List.mem_cons.mp hx with rfl | hx
    · exact PySem.W.mg_none_of X G hb.1
    · exact blt_mem X G hb.2 x hx
theorem clsI_mk {C : Addr} (pg : PySem.W.plainGet K C Str.empty = true) (hd : PySem.W.hasDictIn K C = true) (po : PySem.W.plainOver K C = true) (sa : PySem.W.findIn K (.ref C) "__setattr__" = some (some (.builtin "object.__setattr__")))
    (ha : PySem.W.findIn K (.ref C) "__class__" = some (some (.builtin "object.__class__"))) (hn : PySem.W.specialIn K (.builtin "object.__class__") "__get__" = some (some (.builtin "getset_descriptor.__get__")))
    (htk : PySem.W.takesIn K (.builtin "object.__class__") = some true) (hm : PySem.W.mroIn K C (.type "object") = some true) : ClsI K C := ⟨⟨pg, hd, po, sa⟩, ha, hn, htk, hm⟩
def AttF (K : PySem.W.Frag) (C : Addr) : List Str → Prop
  | [] => True
  | x :: xs => PySem.W.findIn K (.ref C) x = some none ∧ AttF K C xs
theorem att_mem {C : Addr} : ∀ {xs : List Str}, AttF K C xs → ∀ x, xs.contains x = true → NoAttr K C x
  | [], _, x, h => by simp at h
  | y :: xs, hb, x, hx => by
    rw [List.contains_cons, Bool.or_eq_true] at hx
    rcases hx with hx | hx
    · obtain rfl := eq_of_beq hx; exact hb.1
    · exact att_mem hb.2 x hx
/-- the law, from what the top has left -/
theorem law_end {P : Program} {w : World} {base : Heap} {L : LawT} {G : Par} {i : Nat} {d : Df} {fa : Addr} {x : Str} (hs : Stas L 0 L.ds) (hf : Facts K mg G L) (hd : L.ds[i]? = some d) (ht : d.top = true) (hps : d.ps = [x]) (hio : d.io = []) (hmg : mg d.x = some (.ref fa)) (hK : noLst K = true)
    (hm : ∀ ns : List Int, ns.length ≤ 63 → L.F i [.lst false (ns.map T.int)] = .ok (.bl true, [])) :
    ∃ fd : FuncData, (∀ (s : Shared) (u : Value), BindsTo s fd ⟨[u], []⟩ [(x, u)]) ∧ ∀ base : Heap, K.In base → base.Ns mainGlobals mg → FnOk P w K mg base (L2.CX P w) (2 * i + 2) fa fd [x] (spL K) := by
  obtain ⟨f, hmg', fd, F⟩ := hf.tops d (List.mem_of_getElem? hd) ht
  obtain rfl : f = fa := by rw [hmg] at hmg'; cases hmg'; rfl
  refine ⟨fd, fun s u => ?_, fun base _ _ => ?_⟩
  · obtain ⟨oc, od, kV, doc, pm, an, cdv, ct, osl, rfl, lk, hcd⟩ := F.ex
    have st : Sta L i d := by simpa using hs.at hd
    have := st.bd kV doc pm an cdv ct [u] (by rw [hps]; rfl)
    rw [hps] at this
    exact .of_eq this
  · have := all_ok (P := P) (w := w) (base := base) hs hf i d hd f fd F
    rw [hps, hio] at this
    exact this.imp fun vs H Q E h => spL_spF hK hm vs H Q E h
theorem cx_no {P : Program} {w : World} {H : Hp} {s : Shared} {e : Value} {s' : Shared} (h : L2.CX P w [] H s (fun _ _ _ => False) e s') : False := by
  obtain ⟨_, _, _, _, _, _, _, _, _, _, _, _, z⟩ := h
  exact z
end
def tyLs (cl : List Nat) : List TyN := [.int, .bool, .tuple, .list, .dict, .str, .non] ++ cl.map .cls
def kitB (K : PySem.W.Frag) (G : Par) (cl : List Nat) : Bool := (tyLs cl).all fun a => (tyLs cl).all fun b => PySem.W.kitOne K (tyV G a) (tyV G b) == some (kitN a b)
theorem tyLs_mem {cl : List Nat} {a : TyN} (h : tyIn cl a = true) : a ∈ tyLs cl := by
  unfold tyLs
  cases a with
  | cls c => simp only [tyIn] at h; simp at h ⊢; exact h
  | _ => simp
theorem kit_of {K : PySem.W.Frag} {G : Par} {cl : List Nat} (h : kitB K G cl = true) (a b : TyN) (ha : tyIn cl a = true) (hb : tyIn cl b = true) : PySem.W.kitOne K (tyV G a) (tyV G b) = some (kitN a b) := by
  have := List.all_eq_true.mp (List.all_eq_true.mp h a (tyLs_mem ha)) b (tyLs_mem hb)
  simpa using this
end TV
/-! running core programs -/
namespace TV
open PySem L2
open Enc (enc)
@[simp] theorem rb_ok {α β : Type} (a : α) (f : α → R β) : (R.ok a).bind f = f a := rfl
@[simp] theorem rb_err {α β : Type} (f : α → R β) : (R.err : R α).bind f = .err := rfl
@[simp] theorem ro_ok {α : Type} (a : α) (f : α → Out) : (R.ok a).out f = f a := rfl
@[simp] theorem ro_err {α : Type} (f : α → Out) : (R.err : R α).out f = .er := rfl
@[simp] theorem rc_ok {α : Type} (a : α) : (R.ok a).cut = .ok a := rfl
@[simp] theorem ofO_some {α : Type} (a : α) : ofO (some a) = .ok a := rfl
@[simp] theorem stay_v (t : T) (b : Bool) (η η' : Env) : stay (.v t) b η η' = true := rfl
@[simp] theorem stay_nil (i : Nat) (b : Bool) (η η' : Env) : stay (.pl i []) b η η' = true := rfl
@[simp] theorem stay_refl (o : Opd) (η : Env) : stay o true η η = true := by
  cases o with
  | v t => rfl
  | pl i p => cases p <;> simp [stay, beqE_refl]
@[simp] theorem fzs_encS {α : Type} [DecidableEq α] [Enc α] (l : List α) : fzs (l.map enc) = true := fzs_enc l
@[simp] theorem frzs_encS {α : Type} [DecidableEq α] [Enc α] (l : List α) : frzs (l.map enc) = l.map enc := frzs_enc l
@[simp] theorem fz_enc {α : Type} [DecidableEq α] [Enc α] (a : α) : (enc a).fz = true := Enc.fz a
@[simp] theorem frz_enc {α : Type} [DecidableEq α] [Enc α] (a : α) : (enc a).frz = enc a := frz_id _ (Enc.fz a)
@[simp] theorem fl_enc {α : Type} [DecidableEq α] [Enc α] (a : α) : (enc a).fl = false := fz_fl (Enc.fz a)
@[simp] theorem sh_enc {α : Type} [DecidableEq α] [Enc α] (a : α) : (enc a).sh = true := fz_sh (Enc.fz a)
theorem evB_nx {C : Ctx} {s : CS} {ss : List CS} {η η' : Env} (h : evS C s η = .nx η') : evB C (s :: ss) η = evB C ss η' := by simp only [evB, h]
theorem evB_rt {C : Ctx} {s : CS} {ss : List CS} {η η' : Env} {t : T} (h : evS C s η = .rt t η') : evB C (s :: ss) η = .rt t η' := by simp only [evB, h]
theorem forL_run {f : T → Env → Out} (ts : List T) (I : Nat → Env → Prop) {η : Env} (h0 : I 0 η) (hs : ∀ i t η, ts[i]? = some t → I i η → ∃ η', (f t η = .nx η' ∨ f t η = .ct η') ∧ I (i + 1) η') :
    ∃ η', forL f ts η = .nx η' ∧ I ts.length η' := by
  induction ts generalizing η I with
  | nil => exact ⟨η, rfl, h0⟩
  | cons t ts ih =>
    obtain ⟨η1, h1, i1⟩ := hs 0 t η rfl h0
    obtain ⟨η2, h2, i2⟩ := ih (fun i => I (i + 1)) i1 fun i u θ hu hi => hs (i + 1) u θ (by simpa using hu) hi
    refine ⟨η2, ?_, i2⟩
    unfold forL
    rcases h1 with h1 | h1
    · rw [h1]; exact h2
    · rw [h1]; exact h2
/-- for over an encoded list: I holds behind the first i turns -/
theorem for_run {α : Type} {C : Ctx} {tg : FT} {it : IT} {b : List CS} {η η1 : Env} (g : α → T) (xs : List α) (hit : evIt C it η = .ok (xs.map g, η1)) (hp : tg.slots.any C.pin.contains = false) (I : Nat → Env → Prop) (h0 : I 0 η1)
    (hs : ∀ i x η, xs[i]? = some x → I i η → ∃ η₁ η₂, bindF tg (g x) η = some η₁ ∧ (evB C b η₁ = .nx η₂ ∨ evB C b η₁ = .ct η₂) ∧ I (i + 1) η₂) : ∃ η', evS C (.for_ tg it b) η = .nx η' ∧ I xs.length η' := by
  obtain ⟨η', h1, h2⟩ := forL_run (f := fun t η => if tg.slots.any C.pin.contains then .er else match bindF tg t η with
    | some η₁ => evB C b η₁
    | none => .er) (xs.map g) I h0 (fun i t η ht hi => by
      rw [List.getElem?_map] at ht
      obtain ⟨x, hx, rfl⟩ := Option.map_eq_some_iff.mp ht
      obtain ⟨η₁, η₂, h1, h2, h3⟩ := hs i x η hx hi
      refine ⟨η₂, ?_, h3⟩
      simp only [hp, h1]
      exact h2)
  refine ⟨η', ?_, by simpa using h2⟩
  simp only [evS, hit, ro_ok]
  exact h1
theorem whL_run {c : Env → R (Bool × Env)} {b : Env → Out} (I : Env → Prop) (J : Env → Prop) (μ : Env → Nat)
    (hs : ∀ η, I η → ∃ k η1, c η = .ok (k, η1) ∧ (k = true → ∃ η2, (b η1 = .nx η2 ∨ b η1 = .ct η2) ∧ I η2 ∧ μ η2 < μ η) ∧ (k = false → J η1)) :
    ∀ (n : Nat) (η : Env), I η → μ η < n → ∃ η', whL c b n η = .nx η' ∧ J η'
  | 0, η, _, h => by omega
  | n + 1, η, hi, hm => by
    obtain ⟨k, η1, h1, h2, h3⟩ := hs η hi
    unfold whL
    rw [h1]
    cases k with
    | false => exact ⟨η1, rfl, h3 rfl⟩
    | true =>
      obtain ⟨η2, h4, i2, m2⟩ := h2 rfl
      obtain ⟨η', h5, j⟩ := whL_run I J μ hs n η2 i2 (by omega)
      refine ⟨η', ?_, j⟩
      simp only [ro_ok, if_true]
      rcases h4 with h4 | h4 <;> rw [h4] <;> exact h5
theorem whl_run {C : Ctx} {t : CE} {b : List CS} {η : Env} (I : Env → Prop) (J : Env → Prop) (μ : Env → Nat) (hi : I η) (hm : μ η < 1000000)
    (hs : ∀ η, I η → ∃ o k η1, evE C t η = .ok (o, η1) ∧ truO η1 o = some k ∧ (k = true → ∃ η2, (evB C b η1 = .nx η2 ∨ evB C b η1 = .ct η2) ∧ I η2 ∧ μ η2 < μ η) ∧ (k = false → J η1)) : ∃ η', evS C (.whl t b) η = .nx η' ∧ J η' := by
  simp only [evS]
  refine whL_run I J μ (fun η h => ?_) fuelW η hi hm
  obtain ⟨o, k, η1, h1, h2, h3, h4⟩ := hs η h
  exact ⟨k, η1, by simp only [h1, rb_ok, h2], h3, h4⟩
/-- what a comprehension gathers, its state led along -/
theorem lcL_run {f : T → Env → R (Option T × Env)} (ts : List T) (I : Nat → Env → List T → Prop) {η : Env} {acc : List T} (h0 : I 0 η acc) (hl : acc.length + ts.length ≤ sizeL)
    (hs : ∀ i t η acc, ts[i]? = some t → I i η acc → ∃ o η', f t η = .ok (o, η') ∧ I (i + 1) η' (acc ++ o.toList)) : ∃ η' acc', lcL f ts η acc = .ok (acc', η') ∧ I ts.length η' acc' := by
  induction ts generalizing η acc I with
  | nil => exact ⟨η, acc, rfl, h0⟩
  | cons t ts ih =>
    obtain ⟨o, η1, h1, i1⟩ := hs 0 t η acc rfl h0
    have hlen : (acc ++ o.toList).length + ts.length ≤ sizeL := by
      simp only [List.length_append, List.length_cons] at *
      cases o <;> simp <;> omega
    obtain ⟨η2, acc2, h2, i2⟩ := ih (fun i => I (i + 1)) i1 hlen fun i u θ a hu hi => hs (i + 1) u θ a (by simpa using hu) hi
    refine ⟨η2, acc2, ?_, i2⟩
    unfold lcL
    rw [h1]
    cases o with
    | none => simpa using h2
    | some y =>
      have : acc.length < sizeL := by simp only [List.length_cons] at hl; omega
      simp only [rb_ok, this, if_true]
      simpa using h2
/-- a comprehension whose turns change nothing -/
theorem lcL_pure {α : Type} {f : T → Env → R (Option T × Env)} (g : α → T) (h : α → Option T) (xs : List α) {η : Env} {acc : List T} (hl : acc.length + xs.length ≤ sizeL) (hs : ∀ x ∈ xs, f (g x) η = .ok (h x, η)) :
    lcL f (xs.map g) η acc = .ok (acc ++ xs.filterMap h, η) := by
  induction xs generalizing acc with
  | nil => simp [lcL]
  | cons x xs ih =>
    simp only [List.map_cons, lcL, hs x (by simp), rb_ok]
    simp only [List.length_cons] at hl
    cases e : h x with
    | none => simp only [List.filterMap_cons, e]; exact ih (by omega) fun y hy => hs y (by simp [hy])
    | some y =>
      have : acc.length < sizeL := by omega
      simp only [List.filterMap_cons, e, this, if_true]
      rw [ih (by simp only [List.length_append, List.length_singleton]; omega) fun y hy => hs y (by simp [hy])]
      simp
theorem dcL_pure {α : Type} {s : T → T → T → Option T} {f : T → Env → R (Option (T × T) × Env)} (g : α → T) (k v : α → T) (xs : List α) {η : Env} {acc : T} (D : Nat → T) (hD : D 0 = acc) (hs : ∀ x ∈ xs, f (g x) η = .ok (some (k x, v x), η))
    (hS : ∀ i x, xs[i]? = some x → s (D i) (k x) (v x) = some (D (i + 1))) : dcL s f (xs.map g) η acc = .ok (D xs.length, η) := by
  induction xs generalizing acc D with
  | nil => simp [dcL, hD]
  | cons x xs ih =>
    simp only [List.map_cons, dcL, hs x (by simp), rb_ok]
    have := hS 0 x rfl
    rw [hD] at this
    simp only [this]
    exact ih (fun i => D (i + 1)) rfl (fun y hy => hs y (by simp [hy])) fun i y hy => hS (i + 1) y (by simpa using hy)
/-! ### the rules as rewriting -/
section
variable {C : Ctx} {η : Env}
@[simp] theorem x_slot (i : Nat) : evE C (.slot i) η = match η[i]? with
    | some (some t) => if t.fl then .ok (.pl i [], η) else .ok (.v t, η)
    | _ => .err := by simp only [evE] <;> rfl
@[simp] theorem x_cst (t : T) : evE C (.cst t) η = .ok (.v t, η) := by simp only [evE]
@[simp] theorem x_omit : evE C .omit η = .ok (.v .non, η) := by simp only [evE]
@[simp] theorem x_tup (es : List CE) : evE C (.tup es) η = (evs C es η).bind fun x => match args x.1 [] x.2 with
    | some (ts, η', _) => .ok (.v (.tup ts), η')
    | none => .err := by simp only [evE] <;> rfl
@[simp] theorem x_lst (es : List CE) : evE C (.lst es) η = (evs C es η).bind fun x => match args x.1 [] x.2 with
    | some (ts, η', _) => .ok (.v (.lst true ts), η')
    | none => .err := by simp only [evE] <;> rfl
@[simp] theorem x_dic0 : evE C .dic0 η = .ok (.v (.dic true [] []), η) := by simp only [evE]
@[simp] theorem x_bin (op : Operator) (a b : CE) : evE C (.bin op a b) η = (evL [(pu a, fun η => evE C a η), (pu b, fun η => evE C b η)] η).bind fun x => match drs x.2 x.1 with
    | some [s, t] => (ofO (binT op s t)).bind fun r => .ok (.v r, x.2)
    | _ => .err := by simp only [evE] <;> rfl
@[simp] theorem x_un (op : UnaryOp) (a : CE) : evE C (.un op a) η = (evE C a η).bind fun x => match dr x.2 x.1 with
    | some t => (ofO (unT op t)).bind fun r => .ok (.v r, x.2)
    | none => .err := by simp only [evE] <;> rfl
@[simp] theorem x_cmp (op : CmpOp) (a b : CE) : evE C (.cmp op a b) η = (evL [(pu a, fun η => evE C a η), (pu b, fun η => evE C b η)] η).bind fun x => match drs x.2 x.1 with
    | some [s, t] => (ofO (cmpT op s t)).bind fun r => .ok (.v r, x.2)
    | _ => .err := by simp only [evE] <;> rfl
@[simp] theorem x_chain (o1 o2 : CmpOp) (a b c : CE) : evE C (.chain o1 o2 a b c) η = (evL [(pu a, fun η => evE C a η), (pu b, fun η => evE C b η)] η).bind fun x => match drs x.2 x.1 with
    | some [s, t] => (match cmpT o1 s t with
      | some (.bl true) => (evE C c x.2).bind fun y => match dr y.2 y.1 with
        | some u => (match t with
          | .int _ => (ofO (cmpT o2 t u)).bind fun r => .ok (.v r, y.2)
          | _ => .err)
        | none => .err
      | some (.bl false) => .ok (.v (.bl false), x.2)
      | _ => .err)
    | _ => .err := by simp only [evE] <;> rfl
@[simp] theorem x_and (a b : CE) : evE C (.and_ a b) η = (evE C a η).bind fun x => match x.1 with
    | .v (.bl true) => evE C b x.2
    | .v (.bl false) => .ok (.v (.bl false), x.2)
    | _ => .err := by simp only [evE] <;> rfl
@[simp] theorem x_or (a b : CE) : evE C (.or_ a b) η = (evE C a η).bind fun x => match x.1 with
    | .v (.bl true) => .ok (.v (.bl true), x.2)
    | .v (.bl false) => evE C b x.2
    | _ => .err := by simp only [evE] <;> rfl
@[simp] theorem x_not (a : CE) : evE C (.not_ a) η = (evE C a η).bind fun x => match x.1 with
    | .v (.bl k) => .ok (.v (.bl (!k)), x.2)
    | _ => .err := by simp only [evE] <;> rfl
@[simp] theorem x_tand (a b : CE) : evE C (.tand a b) η = (evE C a η).bind fun x => match truO x.2 x.1 with
    | some true => evE C b x.2
    | some false => .ok (.v (.bl false), x.2)
    | none => .err := by simp only [evE] <;> rfl
@[simp] theorem x_tor (a b : CE) : evE C (.tor a b) η = (evE C a η).bind fun x => match truO x.2 x.1 with
    | some true => .ok (.v (.bl true), x.2)
    | some false => evE C b x.2
    | none => .err := by simp only [evE] <;> rfl
@[simp] theorem x_tnot (a : CE) : evE C (.tnot a) η = (evE C a η).bind fun x => match truO x.2 x.1 with
    | some k => .ok (.v (.bl (!k)), x.2)
    | none => .err := by simp only [evE] <;> rfl
@[simp] theorem x_ife (t a b : CE) : evE C (.ife t a b) η = (evE C t η).bind fun x => match truO x.2 x.1 with
    | some true => evE C a x.2
    | some false => evE C b x.2
    | none => .err := by simp only [evE] <;> rfl
@[simp] theorem x_idx (a i : CE) : evE C (.idx a i) η = (evL [(pu a, fun η => evE C a η), (pu i, fun η => evE C i η)] η).bind fun x => match x.1 with
    | [oa, oi] => (match dr x.2 oi with
      | some k => (ofO (idxE x.2 oa k)).bind fun o => .ok (o, x.2)
      | none => .err)
    | _ => .err := by simp only [evE] <;> rfl
@[simp] theorem x_slc (a lo hi : CE) : evE C (.slc a lo hi) η = (evL [(pu a, fun η => evE C a η), (pu lo, fun η => evE C lo η), (pu hi, fun η => evE C hi η)] η).bind fun x => match drs x.2 x.1 with
    | some [t, l, h] => (ofO (slcT t l h)).bind fun r => .ok (.v r, x.2)
    | _ => .err := by simp only [evE] <;> rfl
@[simp] theorem x_rev (a st : CE) : evE C (.rev a st) η = (evL [(pu a, fun η => evE C a η), (pu st, fun η => evE C st η)] η).bind fun x => match drs x.2 x.1 with
    | some [s, t] => (ofO (revT s t)).bind fun r => .ok (.v r, x.2)
    | _ => .err := by simp only [evE] <;> rfl
@[simp] theorem x_att (a : CE) (f : Str) : evE C (.att a f) η = (evE C a η).bind fun x => (ofO (attE C.cl x.2 x.1 f)).bind fun o => .ok (o, x.2) := by simp only [evE]
@[simp] theorem x_call (f : Nat) (es : List CE) : evE C (.call f es) η = (evs C es η).bind fun x => callF (C.fs f) (C.io f) x.1 x.2 := by simp only [evE]
@[simp] theorem x_mk (c : Nat) (es : List CE) : evE C (.mk c es) η = (evs C es η).bind fun x => match C.init c with
    | some f => (mkF (C.fs f) (C.io f) c x.1 x.2).cut
    | none => .err := by simp only [evE] <;> rfl
@[simp] theorem x_bf (b : BF) (es : List CE) : evE C (.bf b es) η = (evs C es η).bind fun x => match drs x.2 x.1 with
    | some ts => (ofO (bfT b ts)).bind fun r => .ok (.v r, x.2)
    | none => .err := by simp only [evE] <;> rfl
@[simp] theorem x_bm (m : BM) (o : CE) (es : List CE) : evE C (.bm m o es) η = (evLc (chkB m) (fun η => evE C o η) (es.all pu) (fun η => evs C es η) η).bind fun x => bmGo m x.1 x.2 := by simp only [evE]
@[simp] theorem x_isi (e : CE) (ts : List TyN) : evE C (.isi e ts) η = (evE C e η).bind fun x => match dr x.2 x.1 with
    | some t => (ofO (isiT C.cl t ts)).bind fun r => .ok (.v r, x.2)
    | none => .err := by simp only [evE] <;> rfl
@[simp] theorem x_dic1 (ek ev : CE) : evE C (.dic1 ek ev) η = (evL [(pu ek, fun η => evE C ek η), (pu ev, fun η => evE C ev η)] η).cut.bind fun z => (match z.1 with
      | [ok, ov] => (match dr z.2 ok, keepO z.2 ov with
        | some key, some (u, η₂) => if keyOk key && !isTup key then .ok (.v (.dic true [key] [u]), η₂) else .err
        | _, _ => .err)
      | _ => .err) := by simp only [evE] <;> rfl
@[simp] theorem x_nil : evs C [] η = .ok ([], η) := by simp only [evs]
@[simp] theorem x_cons (e : CE) (es : List CE) : evs C (e :: es) η = (evE C e η).bind fun x => (evs C es x.2).bind fun y => if stay x.1 (es.all pu) x.2 y.2 then .ok (x.1 :: y.1, y.2) else .err := by simp only [evs]
@[simp] theorem x_L0 : evL [] η = .ok ([], η) := by simp only [evL]
@[simp] theorem x_L (e : Bool × (Env → R (Opd × Env))) (es : List (Bool × (Env → R (Opd × Env)))) : evL (e :: es) η = (e.2 η).bind fun x => (evL es x.2).bind fun y => if stay x.1 (es.all (·.1)) x.2 y.2 then .ok (x.1 :: y.1, y.2) else .err := by simp only [evL]
@[simp] theorem x_T0 : evTs C [] η = .ok (true, η) := by simp only [evTs]
@[simp] theorem x_T (e : CE) (es : List CE) : evTs C (e :: es) η = (evE C e η).bind fun x => match truO x.2 x.1 with
    | some true => evTs C es x.2
    | some false => .ok (false, x.2)
    | none => .err := by simp only [evTs] <;> rfl
@[simp] theorem x_ival (e : CE) : evIt C (.val e) η = (evE C e η).bind fun x => match fre x.2 x.1 with
    | some (t, η') => (match seqOf t with
      | some ts => .ok (ts, η')
      | none => .err)
    | none => .err := by simp only [evIt] <;> rfl
@[simp] theorem x_irng (es : List CE) : evIt C (.rng es) η = (evs C es η).bind fun x => match drs x.2 x.1 with
    | some ts => (ofO (rngT ts)).bind fun r => .ok (r, x.2)
    | none => .err := by simp only [evIt] <;> rfl
@[simp] theorem x_izip (a b : CE) : evIt C (.zip a b) η = (evL [(pu a, fun η => evE C a η), (pu b, fun η => evE C b η)] η).bind fun x => match args x.1 [] x.2 with
    | some ([.lst _ ts, .lst _ us], η', _) => .ok ((ts.zip us).map fun y => .tup [y.1, y.2], η')
    | some ([.tup ts, .tup us], η', _) => .ok ((ts.zip us).map fun y => .tup [y.1, y.2], η')
    | _ => .err := by simp only [evIt] <;> rfl
@[simp] theorem x_asg (fr : Bool) (i : Nat) (e : CE) : evS C (.asg fr (.s i) e) η = (evE C e η).out fun x => if C.pin.contains i then .er else (match (if fr then fre x.2 x.1 else keepO x.2 x.1) with
      | some (t, η') => if i < η'.length then .nx (η'.set i (some t)) else .er
      | none => .er) := by simp only [evS] <;> rfl
@[simp] theorem x_asgT (fr : Bool) (fts : List FT) (e : CE) : evS C (.asg fr (.t fts) e) η = (evE C e η).out fun x => if (slotsF fts).any C.pin.contains then .er else (match fre x.2 x.1 with
      | some (t, η') => (match bindF (.t fts) t η' with
        | some η₂ => .nx η₂
        | none => .er)
      | none => .er) := by simp only [evS] <;> rfl
@[simp] theorem x_asgIx (o i e : CE) : evS C (.asgIx o i e) η = (evE C e η).out fun x => match keepO x.2 x.1 with
    | some (t, η₁) => (evL [(pu o, fun η => evE C o η), (pu i, fun η => evE C i η)] η₁).out fun y => (match y.1 with
      | [.pl k p, oi] => (match dr y.2 oi, get y.2 k p with
        | some key, some n => (match setT n key t with
          | some n' => .nx (put y.2 k p n')
          | none => .er)
        | _, _ => .er)
      | _ => .er)
    | none => .er := by simp only [evS] <;> rfl
@[simp] theorem x_asgAt (o : CE) (f : Str) (e : CE) : evS C (.asgAt o f e) η = (evE C e η).out fun x => match keepO x.2 x.1 with
    | some (t, η₁) => (evE C o η₁).out fun y => (match y.1 with
      | .pl k p => (match get y.2 k p with
        | some (.obj true c ns vs) => if C.cl.contains c then (match attT (.obj true c ns vs) f t with
          | some n' => .nx (put y.2 k p n')
          | none => .er) else .er
        | _ => .er)
      | _ => .er)
    | none => .er := by simp only [evS] <;> rfl
@[simp] theorem x_aug (i : Nat) (op : Operator) (e : CE) : evS C (.aug i op e) η = (match η[i]? with
    | some (some (.int a)) => if C.pin.contains i then .er else (evE C e η).out fun x => match dr x.2 x.1 with
      | some (.int b) => (match augT op a b with
        | some t => .nx (x.2.set i (some t))
        | none => .er)
      | _ => .er
    | _ => .er) := by simp only [evS] <;> rfl
@[simp] theorem x_augIx (o i : CE) (op : Operator) (e : CE) : evS C (.augIx o i op e) η = (evL [(pu o, fun η => evE C o η), (pu i, fun η => evE C i η)] η).out fun x => (match x.1 with
    | [.pl k p, .v key] => (match get x.2 k p with
      | some n => (match childOf n key with
        | some m => (match n.kids[m]? with
          | some (.int a) => if key.sh then (evE C e x.2).out fun y => if stay (.pl k p) (pu e) x.2 y.2 then (match dr y.2 y.1, get y.2 k p with
            | some (.int b), some n2 => (match augT op a b with
              | some t => (match setT n2 key t with
                | some n' => .nx (put y.2 k p n')
                | none => .er)
              | none => .er)
            | _, _ => .er) else .er else .er
          | _ => .er)
        | none => .er)
      | none => .er)
    | _ => .er) := by simp only [evS] <;> rfl
@[simp] theorem x_expr (e : CE) : evS C (.expr e) η = (evE C e η).out fun x => .nx x.2 := by simp only [evS]
@[simp] theorem x_if (t : CE) (a b : List CS) : evS C (.ife t a b) η = (evE C t η).out fun x => match truO x.2 x.1 with
    | some true => evB C a x.2
    | some false => evB C b x.2
    | none => .er := by simp only [evS] <;> rfl
@[simp] theorem x_ret (e : CE) : evS C (.ret e) η = (evE C e η).out fun x => match keepO x.2 x.1 with
    | some (t, η') => .rt t η'
    | none => .er := by simp only [evS] <;> rfl
@[simp] theorem x_ret0 : evS C .ret0 η = .rt .non η := by simp only [evS]
@[simp] theorem x_pass : evS C .pass η = .nx η := by simp only [evS]
@[simp] theorem x_cnt : evS C .cnt η = .ct η := by simp only [evS]
@[simp] theorem x_brk : evS C .brk η = .bk η := by simp only [evS]
@[simp] theorem x_B0 : evB C [] η = .nx η := by simp only [evB]
@[simp] theorem x_B (s : CS) (ss : List CS) : evB C (s :: ss) η = match evS C s η with
    | .nx η' => evB C ss η'
    | .rt t η' => .rt t η'
    | .bk η' => .bk η'
    | .ct η' => .ct η'
    | .ex c p η' => .ex c p η'
    | .er => .er := by simp only [evB] <;> rfl
theorem x_lc (elt : CE) (tg : FT) (it : IT) (ifs : List CE) (ws : List Nat) : evE C (.lc elt tg it ifs ws) η = (evIt C it η).bind fun x =>
    if ws.all (fun i => plainSl x.2 i && !C.pin.contains i) then
      (lcL (fun t η => (match bindF tg t η with
        | some η₁ => (evTs C ifs η₁).bind fun y => if y.1 then (evE C elt y.2).bind fun z => (match keepO z.2 z.1 with
            | some (u, η₂) => .ok (some u, wipeE η₂ ws)
            | none => .err) else .ok (none, wipeE y.2 ws)
        | none => .err).cut) x.1 (wipeE x.2 ws) []).bind fun y => .ok (.v (.lst true y.1), resE y.2 x.2 ws)
    else .err := by simp only [evE] <;> rfl
theorem x_dc (ek ev : CE) (tg : FT) (it : IT) (ifs : List CE) (ws : List Nat) : evE C (.dc ek ev tg it ifs ws) η = (evIt C it η).bind fun x =>
    if ws.all (fun i => plainSl x.2 i && !C.pin.contains i) then
      (dcL setT (fun t η => (match bindF tg t η with
        | some η₁ => (evTs C ifs η₁).bind fun y => if y.1 then (evL [(pu ek, fun η => evE C ek η), (pu ev, fun η => evE C ev η)] y.2).bind fun z => (match z.1 with
            | [ok, ov] => (match dr z.2 ok, keepO z.2 ov with
              | some key, some (u, η₂) => .ok (some (key, u), wipeE η₂ ws)
              | _, _ => .err)
            | _ => .err) else .ok (none, wipeE y.2 ws)
        | none => .err).cut) x.1 (wipeE x.2 ws) (.dic true [] [])).bind fun y => .ok (.v y.1, resE y.2 x.2 ws)
    else .err := by simp only [evE] <;> rfl
@[simp] theorem pu_slot (i : Nat) : pu (.slot i) = true := rfl
@[simp] theorem pu_cst (t : T) : pu (.cst t) = true := rfl
@[simp] theorem pu_omit : pu .omit = true := rfl
@[simp] theorem a_nil (bs : List Bool) : args [] bs η = some ([], η, []) := by cases bs <;> rfl
@[simp] theorem a_v (t : T) (os : List Opd) : args (.v t :: os) [] η = match args os [] η with
    | some (ts, η', is) => some (t.frz :: ts, η', is)
    | none => none := by simp only [args] <;> rfl
@[simp] theorem a_pl (i : Nat) (p : List Nat) (os : List Opd) : args (.pl i p :: os) [] η = match get η i p with
    | some t => (match args os [] (put η i p t.frz) with
      | some (ts, η', is) => some (t.frz :: ts, η', is)
      | none => none)
    | none => none := by
  simp only [args, List.headD, fre]
  cases get η i p <;> rfl
@[simp] theorem a_vb (t : T) (os : List Opd) (bs : List Bool) : args (.v t :: os) (false :: bs) η = match args os bs η with
    | some (ts, η', is) => some (t.frz :: ts, η', is)
    | none => none := by simp only [args] <;> rfl
@[simp] theorem a_plb (i : Nat) (os : List Opd) (bs : List Bool) : args (.pl i [] :: os) (true :: bs) η = match η[i]? with
      | some (some t) => if t.fl then (match args os bs (η.set i none) with
          | some (ts, η', is) => some (t :: ts, η', i :: is)
          | none => none) else none
      | _ => none := by simp only [args] <;> rfl
@[simp] theorem fre_v (t : T) : fre η (.v t) = some (t.frz, η) := rfl
@[simp] theorem fre_pl (i : Nat) (p : List Nat) : fre η (.pl i p) = match get η i p with
    | some t => some (t.frz, put η i p t.frz)
    | none => none := rfl
@[simp] theorem keep_v (t : T) : keepO η (.v t) = some (t, η) := rfl
@[simp] theorem keep_pl (i : Nat) (p : List Nat) : keepO η (.pl i p) = match get η i p with
    | some t => some (t.frz, put η i p t.frz)
    | none => none := rfl
@[simp] theorem drs_nil : drs η [] = some [] := rfl
@[simp] theorem drs_cons (o : Opd) (os : List Opd) : drs η (o :: os) = match dr η o, drs η os with
    | some t, some ts => some (t :: ts)
    | _, _ => none := rfl
@[simp] theorem dr_v (t : T) : dr η (.v t) = if t.sh then some t else none := rfl
@[simp] theorem dr_pl (i : Nat) (p : List Nat) : dr η (.pl i p) = match get η i p with
    | some t => if t.sh then some t else none
    | none => none := rfl
@[simp] theorem get_nil (i : Nat) : get η i [] = match η[i]? with
    | some (some t) => if t.fl then some t else none
    | _ => none := by unfold get; cases η[i]? with
  | none => rfl
  | some o => cases o <;> rfl
@[simp] theorem get_cons (i j : Nat) (p : List Nat) : get η i (j :: p) = match η[i]? with
    | some (some t) => t.at (j :: p)
    | _ => none := rfl
@[simp] theorem put_nil (i : Nat) (n : T) : put η i [] n = match η[i]? with
    | some (some _) => η.set i (some n)
    | _ => η := by unfold put; cases η[i]? with
  | none => rfl
  | some o => cases o <;> rfl
@[simp] theorem put_cons (i j : Nat) (p : List Nat) (n : T) : put η i (j :: p) n = match η[i]? with
    | some (some t) => η.set i (some (t.put (j :: p) n))
    | _ => η := rfl
@[simp] theorem fl_lst (o : Bool) (ts : List T) : (T.lst o ts).fl = o := rfl
@[simp] theorem fl_dic (o : Bool) (ks ts : List T) : (T.dic o ks ts).fl = o := rfl
@[simp] theorem fl_obj (o : Bool) (c : Nat) (ns : List Str) (ts : List T) : (T.obj o c ns ts).fl = o := rfl
@[simp] theorem fl_tup (ts : List T) : (T.tup ts).fl = false := rfl
@[simp] theorem fl_int (i : Int) : (T.int i).fl = false := rfl
@[simp] theorem fl_bl (i : Bool) : (T.bl i).fl = false := rfl
@[simp] theorem fl_non : T.non.fl = false := rfl
@[simp] theorem sh_lst (o : Bool) (ts : List T) : (T.lst o ts).sh = fzs ts := rfl
@[simp] theorem sh_tup (ts : List T) : (T.tup ts).sh = fzs ts := rfl
@[simp] theorem sh_dic (o : Bool) (ks ts : List T) : (T.dic o ks ts).sh = fzs ts := rfl
@[simp] theorem sh_obj (o : Bool) (c : Nat) (ns : List Str) (ts : List T) : (T.obj o c ns ts).sh = fzs ts := rfl
@[simp] theorem sh_int (i : Int) : (T.int i).sh = true := rfl
@[simp] theorem sh_bl (i : Bool) : (T.bl i).sh = true := rfl
@[simp] theorem sh_non : T.non.sh = true := rfl
@[simp] theorem fz_lst (o : Bool) (ts : List T) : (T.lst o ts).fz = (!o && fzs ts) := by simp only [T.fz]
@[simp] theorem fz_tup (ts : List T) : (T.tup ts).fz = fzs ts := by simp only [T.fz]
@[simp] theorem fz_int (i : Int) : (T.int i).fz = true := by simp only [T.fz]
@[simp] theorem fz_bl (i : Bool) : (T.bl i).fz = true := by simp only [T.fz]
@[simp] theorem fz_non : T.non.fz = true := by simp only [T.fz]
@[simp] theorem fz_objf (c : Nat) (ns : List Str) (ts : List T) (o : Bool) : (T.obj o c ns ts).fz = (!o && fzs ts) := by simp only [T.fz]
@[simp] theorem fzs_nil : fzs [] = true := rfl
@[simp] theorem fzs_cons (t : T) (ts : List T) : fzs (t :: ts) = (t.fz && fzs ts) := by simp only [fzs]
@[simp] theorem frz_lst (o : Bool) (ts : List T) : (T.lst o ts).frz = .lst false (if o then frzs ts else ts) := by cases o <;> simp only [T.frz] <;> rfl
@[simp] theorem frz_dic (o : Bool) (ks ts : List T) : (T.dic o ks ts).frz = .dic false ks (if o then frzs ts else ts) := by cases o <;> simp only [T.frz] <;> rfl
@[simp] theorem frz_obj (o : Bool) (c : Nat) (ns : List Str) (ts : List T) : (T.obj o c ns ts).frz = .obj false c ns (if o then frzs ts else ts) := by cases o <;> simp only [T.frz] <;> rfl
@[simp] theorem frz_tup (ts : List T) : (T.tup ts).frz = .tup ts := by simp only [T.frz]
@[simp] theorem frz_int (i : Int) : (T.int i).frz = .int i := by simp only [T.frz]
@[simp] theorem frz_bl (i : Bool) : (T.bl i).frz = .bl i := by simp only [T.frz]
@[simp] theorem frz_non : T.non.frz = .non := by simp only [T.frz]
@[simp] theorem frzs_nil : frzs [] = [] := rfl
@[simp] theorem frzs_cons (t : T) (ts : List T) : frzs (t :: ts) = t.frz :: frzs ts := by simp only [frzs]
@[simp] theorem tru_v (t : T) : truO η (.v t) = t.truthy := rfl
@[simp] theorem tru_pl (i : Nat) (p : List Nat) : truO η (.pl i p) = match get η i p with
    | some t => t.truthy
    | none => none := rfl
@[simp] theorem try_bl (b : Bool) : (T.bl b).truthy = some b := rfl
@[simp] theorem kind_v (t : T) : kindO η (.v t) = some t := rfl
@[simp] theorem kind_pl (i : Nat) (p : List Nat) : kindO η (.pl i p) = get η i p := rfl
@[simp] theorem back_nil : backA η [] [] = some η := rfl
@[simp] theorem back_cons (i : Nat) (is : List Nat) (t : T) (os : Env) : backA η (i :: is) (some t :: os) = backA (η.set i (some t)) is os := rfl
end
theorem callF_ok {f : FS} {io : List Bool} {os : List Opd} {η η1 η2 : Env} {ts : List T} {is : List Nat} {t : T} {outs : Env} (ha : args os io η = some (ts, η1, is)) (hf : f ts = .ok (t, outs)) (hb : backA η1 is outs = some η2) : callF f io os η = .ok (.v t, η2) := by
  unfold callF; simp only [ha, hf, hb]
theorem evF_eq {C : Ctx} {io : List Bool} {n : Nat} {b : List CS} {ts : List T} {t : T} {η' outs : Env} (h : evB C b (ts.map some ++ List.replicate (n - ts.length) none) = .rt t η') (ho : outsOf io η' = some outs) : evF C io n b ts = .ok (t, outs) := by
  unfold evF; simp only [h, ho]
theorem evF_nx {C : Ctx} {io : List Bool} {n : Nat} {b : List CS} {ts : List T} {η' outs : Env} (h : evB C b (ts.map some ++ List.replicate (n - ts.length) none) = .nx η') (ho : outsOf io η' = some outs) : evF C io n b ts = .ok (.non, outs) := by
  unfold evF; simp only [h, ho]
@[simp] theorem outs_nil (η : Env) : outsOf [] η = some [] := by cases η <;> rfl
end TV
/-! comparisons, lists, dicts over encodings -/
namespace TV
open PySem L2
open Enc (enc)
/-! ### numbers -/
theorem dataI (i : Int) : (T.int i).data = true := rfl
theorem eqT_int (i j : Int) : eqT (.int i) (.int j) = decide (i = j) := by
  simp only [eqT, T.toD, PyData.eqv]; by_cases h : i = j <;> simp [h]
theorem ltT_int (i j : Int) : ltT (.int i) (.int j) = decide (i < j) := by simp only [ltT, T.toD, PySem.W.dataLt_int]
theorem alike_int (i j : Int) : alikeT (.int i) (.int j) = true := rfl
@[simp] theorem c_eq (i j : Int) : cmpT .Eq (.int i) (.int j) = some (.bl (decide (i = j))) := by simp [cmpT, dataI, eqT_int]
@[simp] theorem c_ne (i j : Int) : cmpT .NotEq (.int i) (.int j) = some (.bl (!decide (i = j))) := by simp [cmpT, dataI, eqT_int]
@[simp] theorem c_lt (i j : Int) : cmpT .Lt (.int i) (.int j) = some (.bl (decide (i < j))) := by simp [cmpT, dataI, ltT_int, alike_int, T.isNon]
@[simp] theorem c_gt (i j : Int) : cmpT .Gt (.int i) (.int j) = some (.bl (decide (j < i))) := by simp [cmpT, dataI, ltT_int, alike_int, T.isNon]
@[simp] theorem c_le (i j : Int) : cmpT .LtE (.int i) (.int j) = some (.bl (decide (i ≤ j))) := by
  simp only [cmpT, dataI, ltT_int, alike_int, T.isNon]
  by_cases h : i ≤ j <;> simp [h] <;> omega
@[simp] theorem c_ge (i j : Int) : cmpT .GtE (.int i) (.int j) = some (.bl (decide (j ≤ i))) := by
  simp only [cmpT, dataI, ltT_int, alike_int, T.isNon]
  by_cases h : j ≤ i <;> simp [h] <;> omega
@[simp] theorem c_isN (t : T) : cmpT .Is t .non = some (.bl t.isNon) := by cases t <;> rfl
@[simp] theorem c_isnN (t : T) : cmpT .IsNot t .non = some (.bl (!t.isNon)) := by cases t <;> rfl
@[simp] theorem c_isnB (l k : Bool) : cmpT .IsNot (.bl l) (.bl k) = some (.bl (!decide (l = k))) := rfl
@[simp] theorem c_isB (l k : Bool) : cmpT .Is (.bl l) (.bl k) = some (.bl (decide (l = k))) := rfl
@[simp] theorem isNon_int (i : Int) : (T.int i).isNon = false := rfl
@[simp] theorem isNon_tup (l : List T) : (T.tup l).isNon = false := rfl
@[simp] theorem isNon_bl (i : Bool) : (T.bl i).isNon = false := rfl
@[simp] theorem isNon_non : T.non.isNon = true := rfl
@[simp] theorem b_add (i j : Int) : binT .Add (.int i) (.int j) = some (.int (i + j)) := rfl
@[simp] theorem b_sub (i j : Int) : binT .Sub (.int i) (.int j) = some (.int (i - j)) := rfl
theorem b_mul {i j : Int} (h : j.natAbs < 2 ^ 64 ∨ i.natAbs < 2 ^ 64) : binT .Mult (.int i) (.int j) = some (.int (i * j)) := by simp only [binT, if_pos h]
theorem b_div {i j : Int} (h : 0 < j ∧ j.natAbs < 1073741824) : binT .FloorDiv (.int i) (.int j) = some (.int (i / j)) := by simp only [binT, if_pos h]
theorem b_mod {i j : Int} (h : 0 < j) : binT .Mod (.int i) (.int j) = some (.int (i % j)) := by simp only [binT, if_pos h]
theorem b_pow {i j : Int} (h : 0 ≤ j ∧ j.natAbs ≤ 1000000 ∧ i.natAbs < 2 ^ 64) : binT .Pow (.int i) (.int j) = some (.int (i ^ j.toNat)) := by simp only [binT, if_pos h]
@[simp] theorem u_neg (i : Int) : unT .USub (.int i) = some (.int (-i)) := rfl
@[simp] theorem g_add (i j : Int) : augT .Add i j = some (.int (i + j)) := rfl
@[simp] theorem g_sub (i j : Int) : augT .Sub i j = some (.int (i - j)) := rfl
@[simp] theorem f_int (i : Int) : bfT .int [.int i] = some (.int i) := rfl
@[simp] theorem f_intb (b : Bool) : bfT .int [.bl b] = some (.int (if b then 1 else 0)) := rfl
@[simp] theorem f_abs (i : Int) : bfT .abs [.int i] = some (.int (if i < 0 then -i else i)) := rfl
@[simp] theorem f_lenL (o : Bool) (ts : List T) : bfT .len [.lst o ts] = some (.int ts.length) := rfl
@[simp] theorem f_lenT (ts : List T) : bfT .len [.tup ts] = some (.int ts.length) := rfl
@[simp] theorem f_lenD (o : Bool) (ks ts : List T) : bfT .len [.dic o ks ts] = some (.int ks.length) := rfl
@[simp] theorem f_tupL (o : Bool) (ts : List T) : bfT .tuple [.lst o ts] = some (.tup ts) := rfl
@[simp] theorem f_tupT (ts : List T) : bfT .tuple [.tup ts] = some (.tup ts) := rfl
@[simp] theorem f_lstL (o : Bool) (ts : List T) : bfT .list [.lst o ts] = some (.lst true ts) := rfl
@[simp] theorem f_lstT (ts : List T) : bfT .list [.tup ts] = some (.lst true ts) := rfl
@[simp] theorem seq_lst (o : Bool) (ts : List T) : seqOf (.lst o ts) = some ts := rfl
@[simp] theorem seq_tup (ts : List T) : seqOf (.tup ts) = some ts := rfl
theorem f_all {ts : T} {bs : List Bool} (h : seqOf ts = some (bs.map T.bl)) : bfT .all [ts] = some (.bl (bs.all id)) := by
  have : (bs.map T.bl).mapM boolOf = some bs := by
    clear h
    induction bs with
    | nil => rfl
    | cons b bs ih => simp [List.mapM_cons, boolOf, ih]
  simp [bfT, h, this]
theorem f_any {ts : T} {bs : List Bool} (h : seqOf ts = some (bs.map T.bl)) : bfT .any [ts] = some (.bl (bs.any id)) := by
  have : (bs.map T.bl).mapM boolOf = some bs := by
    clear h
    induction bs with
    | nil => rfl
    | cons b bs ih => simp [List.mapM_cons, boolOf, ih]
  simp [bfT, h, this]
theorem range_small {n : Nat} (h : n < 4611686018427387904) : rngT [.int (n : Int)] = some ((List.range n).map enc) := by
  simp only [rngT]
  rw [if_pos (by omega)]
  simp only [Int.toNat_natCast] <;> rfl
theorem range_small2 {a b : Nat} (ha : a < 4611686018427387904) (hb : b < 4611686018427387904) : rngT [.int (a : Int), .int (b : Int)] = some ((List.range' a (b - a)).map enc) := by
  simp only [rngT]
  rw [if_pos (by omega)]
  have : ((b : Int) - (a : Int)).toNat = b - a := by omega
  rw [this, List.range'_eq_map_range, List.map_map]
  rfl
section
variable {α β : Type} [DecidableEq α] [Enc α] [DecidableEq β] [Enc β]
theorem enc_inj {a b : α} (h : (enc a : T) = enc b) : a = b := by
  have := eqT_enc a b
  rw [h, eqT_enc] at this
  simpa using this.symm
theorem beq_enc (a b : α) : (enc a : T).beq (enc b) = decide (a = b) := by
  by_cases h : a = b
  · subst h; simp [T.beq_refl]
  · simp only [h, decide_false]
    cases e : (enc a : T).beq (enc b) with
    | false => rfl
    | true => exact absurd (enc_inj (T.beq_eq _ _ e)) h
theorem c_eqE (h : Enc.dp α ≤ 60) (a b : α) : cmpT .Eq (enc a) (enc b) = some (.bl (decide (a = b))) := by simp [cmpT, data_enc h, eqT_enc]
theorem c_neE (h : Enc.dp α ≤ 60) (a b : α) : cmpT .NotEq (enc a) (enc b) = some (.bl (!decide (a = b))) := by simp [cmpT, data_enc h, eqT_enc]
theorem c_ltE (h : Enc.dp α ≤ 60) (a b : α) : cmpT .Lt (enc a) (enc b) = some (.bl (Enc.lt a b)) := by
  simp [cmpT, data_enc h, Enc.nn, Enc.ltE, alikeT, Enc.al]
theorem c_eqL (h : Enc.dp α ≤ 59) (o q : Bool) (l m : List α) : cmpT .Eq (.lst o (l.map enc)) (.lst q (m.map enc)) = some (.bl (decide (l = m))) := by simp [cmpT, data_lst h, eqT_lst]
theorem c_neL (h : Enc.dp α ≤ 59) (o q : Bool) (l m : List α) : cmpT .NotEq (.lst o (l.map enc)) (.lst q (m.map enc)) = some (.bl (!decide (l = m))) := by simp [cmpT, data_lst h, eqT_lst]
theorem c_eqT (h : Enc.dp α ≤ 59) (l m : List α) : cmpT .Eq (.tup (l.map enc)) (.tup (m.map enc)) = some (.bl (decide (l = m))) := by simp [cmpT, data_tup h, eqT_tup]
theorem c_neT (h : Enc.dp α ≤ 59) (l m : List α) : cmpT .NotEq (.tup (l.map enc)) (.tup (m.map enc)) = some (.bl (!decide (l = m))) := by simp [cmpT, data_tup h, eqT_tup]
theorem any_enc (l : List α) (a : α) : ((l.map enc).any fun y => eqT y (enc a)) = decide (a ∈ l) := by
  induction l with
  | nil => simp
  | cons b l ih =>
    simp only [List.map_cons, List.any_cons, ih, eqT_enc, List.mem_cons]
    by_cases h : b = a
    · simp [h]
    · simp [h, Ne.symm h]
theorem c_inT (h : Enc.dp α ≤ 59) (a : α) (l : List α) : cmpT .In (enc a) (.tup (l.map enc)) = some (.bl (decide (a ∈ l))) := by
  simp only [cmpT, data_enc (Nat.le_succ_of_le h), data_tup h, Bool.and_self, if_true, any_enc]
theorem c_ninT (h : Enc.dp α ≤ 59) (a : α) (l : List α) : cmpT .NotIn (enc a) (.tup (l.map enc)) = some (.bl (!decide (a ∈ l))) := by
  simp only [cmpT, data_enc (Nat.le_succ_of_le h), data_tup h, Bool.and_self, if_true, any_enc]
theorem c_inL (h : Enc.dp α ≤ 59) (o : Bool) (a : α) (l : List α) : cmpT .In (enc a) (.lst o (l.map enc)) = some (.bl (decide (a ∈ l))) := by
  simp only [cmpT, data_enc (Nat.le_succ_of_le h), data_lst h, Bool.and_self, if_true, any_enc]
theorem c_ninL (h : Enc.dp α ≤ 59) (o : Bool) (a : α) (l : List α) : cmpT .NotIn (enc a) (.lst o (l.map enc)) = some (.bl (!decide (a ∈ l))) := by
  simp only [cmpT, data_enc (Nat.le_succ_of_le h), data_lst h, Bool.and_self, if_true, any_enc]
theorem f_sortP (h : Enc.dp (α × β) ≤ 60) {t : T} (l : List (α × β)) (ht : seqOf t = some (l.map enc)) : bfT .sorted [t] = some (.lst true ((srt l).map enc)) := by
  simp only [bfT, ht, Option.bind_some, sortOk_pairs h, if_true, sortT_enc]
theorem f_sortN {t : T} (l : List Nat) (ht : seqOf t = some (l.map enc)) : bfT .sorted [t] = some (.lst true ((srt l).map enc)) := by
  simp only [bfT, ht, Option.bind_some, sortOk_nats, if_true, sortT_enc]
/-! ### places in lists -/
theorem idx_nat {n i : Nat} (h : i < n) : idxOf n (i : Int) = some i := by
  unfold idxOf ixN
  rw [if_pos (by omega), if_pos (by omega), Int.toNat_natCast]
theorem child_lst {o : Bool} {ts : List T} {i : Nat} (h : i < ts.length) : childOf (.lst o ts) (.int (i : Int)) = some i := by simp only [childOf]; exact idx_nat h
theorem child_tup {ts : List T} {i : Nat} (h : i < ts.length) : childOf (.tup ts) (.int (i : Int)) = some i := by simp only [childOf]; exact idx_nat h
theorem set_lst {ts : List T} {i : Nat} (h : i < ts.length) (x : T) : setT (.lst true ts) (.int (i : Int)) x = some (.lst true (ts.set i x)) := by simp [setT, idx_nat h]
/-! ### dicts -/
class KeyEnc (α : Type) [DecidableEq α] [Enc α] where
  ok : ∀ a : α, keyOk (enc a) = true
  tp : Bool
  tpE : ∀ a : α, isTup (enc a) = tp
instance : KeyEnc Nat := ⟨fun _ => rfl, false, fun _ => rfl⟩
instance : KeyEnc (Nat × Nat) := ⟨fun _ => rfl, true, fun _ => rfl⟩
instance : KeyEnc (List Nat) := ⟨fun l => by
  show ((l.map enc).all fun t => (keyS t).isSome) = true
  simp only [List.all_map, List.all_eq_true]
  intro x _; rfl, true, fun _ => rfl⟩
variable [KeyEnc α]
def dicT (o : Bool) (kv : List (α × T)) : T := .dic o (kv.map fun p => enc p.1) (kv.map (·.2))
theorem keyFit_enc (kv : List (α × T)) (a : α) : keyFit (kv.map fun p => enc p.1) (enc a) = true := by
  unfold keyFit
  rw [KeyEnc.ok, Bool.true_and, List.all_eq_true]
  intro t ht
  obtain ⟨p, _, rfl⟩ := List.mem_map.mp ht
  simp [KeyEnc.tpE]
theorem kpos_enc (kv : List (α × T)) (a : α) : kpos (kv.map fun p => enc p.1) (enc a) = kv.findIdx? (fun p => decide (p.1 = a)) := by
  induction kv with
  | nil => rfl
  | cons p kv ih =>
    simp only [List.map_cons, kpos, beq_enc, List.findIdx?_cons, ih]
def keysD (kv : List (α × T)) : List α := kv.map (·.1)
theorem kposE_some (kv : List (α × T)) (a : α) : (kpos (kv.map fun p => enc p.1) (enc a)).isSome = decide (a ∈ kv.map (·.1)) := by
  rw [kpos_enc, List.findIdx?_isSome]
  by_cases h : a ∈ kv.map (·.1)
  · simp only [h, decide_true]
    obtain ⟨p, hp, e⟩ := List.mem_map.mp h
    rw [List.any_eq_true]
    exact ⟨p, hp, by simpa using e⟩
  · simp only [h, decide_false]
    rw [List.any_eq_false]
    intro p hp e
    exact h (List.mem_map.mpr ⟨p, hp, by simpa using e⟩)
theorem c_inD (o : Bool) (kv : List (α × T)) (a : α) : cmpT .In (enc a) (dicT o kv) = some (.bl (decide (a ∈ kv.map (·.1)))) := by
  simp only [cmpT, dicT, keyFit_enc, if_true, kposE_some]
theorem c_ninD (o : Bool) (kv : List (α × T)) (a : α) : cmpT .NotIn (enc a) (dicT o kv) = some (.bl (!decide (a ∈ kv.map (·.1)))) := by
  simp only [cmpT, dicT, keyFit_enc, if_true, kposE_some]
/-- where the key stands -/
def posD (kv : List (α × T)) (a : α) : Option Nat := kv.findIdx? (fun p => decide (p.1 = a))
theorem child_dic (o : Bool) (kv : List (α × T)) (a : α) : childOf (dicT o kv) (enc a) = posD kv a := by
  simp only [childOf, dicT, keyFit_enc, if_true, kpos_enc] <;> rfl
theorem set_new {kv : List (α × T)} {a : α} (hn : a ∉ kv.map (·.1)) (hl : kv.length < sizeL) (x : T) : setT (dicT true kv) (enc a) x = some (dicT true (kv ++ [(a, x)])) := by
  have hp : kpos (kv.map fun p => enc p.1) (enc a) = none := by
    have := kposE_some kv a
    simp only [hn, decide_false] at this
    exact Option.isNone_iff_eq_none.mp (by simpa using this)
  simp only [setT, dicT, keyFit_enc, List.length_map, hl, decide_true, Bool.and_true, if_true, hp, List.map_append, List.map_cons, List.map_nil]
theorem getD_none {o : Bool} {kv : List (α × T)} {a : α} (hn : a ∉ kv.map (·.1)) : bmR .get [dicT o kv, enc a] = some .non := by
  have hp : kpos (kv.map fun p => enc p.1) (enc a) = none := by
    have := kposE_some kv a
    simp only [hn, decide_false] at this
    exact Option.isNone_iff_eq_none.mp (by simpa using this)
  simp only [bmR, dicT, keyFit_enc, if_true, hp]
theorem posD_some {kv : List (α × T)} {a : α} (h : a ∈ kv.map (·.1)) : ∃ j, posD kv a = some j ∧ ∃ x, kv[j]? = some (a, x) := by
  have := kposE_some kv a
  rw [kpos_enc] at this
  simp only [h, decide_true] at this
  obtain ⟨j, hj⟩ := Option.isSome_iff_exists.mp this
  refine ⟨j, hj, ?_⟩
  obtain ⟨h1, h2, _⟩ := List.findIdx?_eq_some_iff_getElem.mp hj
  refine ⟨kv[j].2, ?_⟩
  rw [List.getElem?_eq_getElem h1]
  congr 1
  exact Prod.ext (by simpa using h2) rfl
theorem getD_some {o : Bool} {kv : List (α × T)} {a : α} {j : Nat} {x : T} (h : posD kv a = some j) (hx : kv[j]? = some (a, x)) : bmR .get [dicT o kv, enc a] = some x := by
  have hp : kpos (kv.map fun p => enc p.1) (enc a) = some j := by rw [kpos_enc]; exact h
  simp only [bmR, dicT, keyFit_enc, if_true, hp, List.getElem?_map, hx, Option.map_some]
  rfl
/-- a dict comprehension's dict: the keys, each once, in order -/
theorem set_old {kv : List (α × T)} {a : α} {j : Nat} {y : T} (h : posD kv a = some j) (hx : kv[j]? = some (a, y)) (hl : kv.length < sizeL) (x : T) : setT (dicT true kv) (enc a) x = some (dicT true (kv.set j (a, x))) := by
  have hp : kpos (kv.map fun p => enc p.1) (enc a) = some j := by rw [kpos_enc]; exact h
  simp only [setT, dicT, keyFit_enc, List.length_map, hl, decide_true, Bool.and_true, if_true, hp, List.map_set]
  congr 2
  refine (List.ext_getElem? fun n => ?_)
  rw [List.getElem?_set]
  split
  · rename_i e; subst e
    rw [List.getElem?_map, hx]
    split
    · rfl
    · rename_i h2; rw [List.length_map] at h2; exact absurd (List.getElem?_eq_some_iff.mp hx).1 h2
  · rfl
end
end TV
/-! comprehensions; the checks -/
namespace TV
open PySem L2
open Enc (enc)
/-- one turn of a list comprehension -/
def turnL (C : Ctx) (elt : CE) (tg : FT) (ifs : List CE) (ws : List Nat) (t : T) (η : Env) : R (Option T × Env) :=
  (match bindF tg t η with
    | some η₁ => (evTs C ifs η₁).bind fun y => if y.1 then (evE C elt y.2).bind fun z => (match keepO z.2 z.1 with
        | some (u, η₂) => .ok (some u, wipeE η₂ ws)
        | none => .err) else .ok (none, wipeE y.2 ws)
    | none => .err).cut
def turnD (C : Ctx) (ek ev : CE) (tg : FT) (ifs : List CE) (ws : List Nat) (t : T) (η : Env) : R (Option (T × T) × Env) :=
  (match bindF tg t η with
    | some η₁ => (evTs C ifs η₁).bind fun y => if y.1 then (evL [(pu ek, fun η => evE C ek η), (pu ev, fun η => evE C ev η)] y.2).bind fun z => (match z.1 with
        | [ok, ov] => (match dr z.2 ok, keepO z.2 ov with
          | some key, some (u, η₂) => .ok (some (key, u), wipeE η₂ ws)
          | _, _ => .err)
        | _ => .err) else .ok (none, wipeE y.2 ws)
    | none => .err).cut
section
variable {α β : Type} {C : Ctx} {η η1 : Env}
theorem lc_eq (elt : CE) (tg : FT) (it : IT) (ifs : List CE) (ws : List Nat) : evE C (.lc elt tg it ifs ws) η = (evIt C it η).bind fun x =>
    if ws.all (fun i => plainSl x.2 i && !C.pin.contains i) then (lcL (turnL C elt tg ifs ws) x.1 (wipeE x.2 ws) []).bind fun y => .ok (.v (.lst true y.1), resE y.2 x.2 ws) else .err := by
  rw [x_lc]; rfl
theorem dc_eq (ek ev : CE) (tg : FT) (it : IT) (ifs : List CE) (ws : List Nat) : evE C (.dc ek ev tg it ifs ws) η = (evIt C it η).bind fun x =>
    if ws.all (fun i => plainSl x.2 i && !C.pin.contains i) then (dcL setT (turnD C ek ev tg ifs ws) x.1 (wipeE x.2 ws) (.dic true [] [])).bind fun y => .ok (.v y.1, resE y.2 x.2 ws) else .err := by
  rw [x_dc]; rfl
theorem lc_pure {elt : CE} {tg : FT} {it : IT} {ifs : List CE} {ws : List Nat} (g : α → T) (h : α → Option T) (xs : List α) (hit : evIt C it η = .ok (xs.map g, η1)) (hw : ws.all (fun i => plainSl η1 i && !C.pin.contains i) = true) (hl : xs.length ≤ sizeL)
    (hs : ∀ x ∈ xs, turnL C elt tg ifs ws (g x) (wipeE η1 ws) = .ok (h x, wipeE η1 ws)) : evE C (.lc elt tg it ifs ws) η = .ok (.v (.lst true (xs.filterMap h)), resE (wipeE η1 ws) η1 ws) := by
  rw [lc_eq, hit]
  simp only [rb_ok, hw, if_true]
  rw [lcL_pure g h xs (by simpa using hl) hs]
  simp
theorem lc_map {elt : CE} {tg : FT} {it : IT} {ifs : List CE} {ws : List Nat} (g h : α → T) (xs : List α) (hit : evIt C it η = .ok (xs.map g, η1)) (hw : ws.all (fun i => plainSl η1 i && !C.pin.contains i) = true) (hl : xs.length ≤ sizeL)
    (hs : ∀ x ∈ xs, turnL C elt tg ifs ws (g x) (wipeE η1 ws) = .ok (some (h x), wipeE η1 ws)) : evE C (.lc elt tg it ifs ws) η = .ok (.v (.lst true (xs.map h)), resE (wipeE η1 ws) η1 ws) := by
  have := lc_pure g (fun x => some (h x)) xs hit hw hl hs
  rwa [List.filterMap_eq_map'] at this
theorem lc_filter {elt : CE} {tg : FT} {it : IT} {ifs : List CE} {ws : List Nat} (g h : α → T) (p : α → Bool) (xs : List α) (hit : evIt C it η = .ok (xs.map g, η1)) (hw : ws.all (fun i => plainSl η1 i && !C.pin.contains i) = true) (hl : xs.length ≤ sizeL)
    (hs : ∀ x ∈ xs, turnL C elt tg ifs ws (g x) (wipeE η1 ws) = .ok (if p x then some (h x) else none, wipeE η1 ws)) : evE C (.lc elt tg it ifs ws) η = .ok (.v (.lst true ((xs.filter p).map h)), resE (wipeE η1 ws) η1 ws) := by
  rw [lc_pure g (fun x => if p x then some (h x) else none) xs hit hw hl hs]
  congr 4
  clear hs hl hit
  induction xs with
  | nil => rfl
  | cons x xs ih => by_cases e : p x <;> simp [e, ih]
/-- a dict comprehension of unlike keys -/
theorem dc_map [DecidableEq β] [Enc β] [KeyEnc β] {ek ev : CE} {tg : FT} {it : IT} {ws : List Nat} (g : α → T) (k : α → β) (v : α → T) (xs : List α) (hit : evIt C it η = .ok (xs.map g, η1)) (hw : ws.all (fun i => plainSl η1 i && !C.pin.contains i) = true) (hl : xs.length ≤ sizeL)
    (hnd : (xs.map k).Nodup) (hs : ∀ x ∈ xs, turnD C ek ev tg [] ws (g x) (wipeE η1 ws) = .ok (some (enc (k x), v x), wipeE η1 ws)) : evE C (.dc ek ev tg it [] ws) η = .ok (.v (dicT true (xs.map fun x => (k x, v x))), resE (wipeE η1 ws) η1 ws) := by
  rw [dc_eq, hit]
  simp only [rb_ok, hw, if_true]
  have hD := dcL_pure (s := setT) (f := turnD C ek ev tg [] ws) (η := wipeE η1 ws) (acc := .dic true [] []) g (fun x => enc (k x)) v xs (fun i => dicT true ((xs.take i).map fun x => (k x, v x))) rfl hs (fun i x hx => by
    obtain ⟨hi, e⟩ := List.getElem?_eq_some_iff.mp hx
    rw [set_new]
    · rw [List.take_add_one, hx]; simp
    · rw [List.map_map]
      show k x ∉ (xs.take i).map k
      intro hm
      rw [List.map_take] at hm
      have h2 := hnd
      rw [← List.take_append_drop i (xs.map k)] at h2
      have hil : i < (xs.map k).length := by simpa using hi
      refine (List.nodup_append.mp h2).2.2 _ hm (k x) ?_ rfl
      rw [List.drop_eq_getElem_cons hil, List.getElem_map, e]
      exact List.mem_cons_self
    · rw [List.length_map, List.length_take]; omega)
  rw [hD]
  simp
@[simp] theorem wipe_nil (η : Env) : wipeE η [] = η := rfl
@[simp] theorem wipe_cons (η : Env) (v : Nat) (vs : List Nat) : wipeE η (v :: vs) = (wipeE η vs).set v none := rfl
@[simp] theorem res_nil (η η1 : Env) : resE η η1 [] = η := rfl
@[simp] theorem res_cons (η η1 : Env) (v : Nat) (vs : List Nat) : resE η η1 (v :: vs) = (resE η η1 vs).set v ((η1[v]?).getD none) := rfl
@[simp] theorem bind_s (i : Nat) (t : T) (η : Env) : bindF (.s i) t η = if i < η.length then some (η.set i (some t)) else none := rfl
@[simp] theorem bind_t (fts : List FT) (ts : List T) (η : Env) : bindF (.t fts) (.tup ts) η = bindFs fts ts η := rfl
@[simp] theorem bind_pr [DecidableEq α] [Enc α] [DecidableEq β] [Enc β] (fts : List FT) (p : α × β) (η : Env) : bindF (.t fts) (enc p) η = bindFs fts [enc p.1, enc p.2] η := rfl
@[simp] theorem binds_nil (η : Env) : bindFs [] [] η = some η := rfl
@[simp] theorem binds_cons (f : FT) (fs : List FT) (t : T) (ts : List T) (η : Env) : bindFs (f :: fs) (t :: ts) η = match bindF f t η with
    | some η' => bindFs fs ts η'
    | none => none := rfl
@[simp] theorem idx0 [DecidableEq α] [Enc α] [DecidableEq β] [Enc β] (p : α × β) : idxE η (.v (enc p)) (.int 0) = some (.v (enc p.1)) := by
  show (if (enc p : T).sh then _ else _) = _
  rw [sh_enc]; rfl
@[simp] theorem idx1 [DecidableEq α] [Enc α] [DecidableEq β] [Enc β] (p : α × β) : idxE η (.v (enc p)) (.int 1) = some (.v (enc p.2)) := by
  show (if (enc p : T).sh then _ else _) = _
  rw [sh_enc]; rfl
@[simp] theorem rev_pr [DecidableEq α] [Enc α] (p : α × α) : revT (enc p) (.int (-1)) = some (enc (p.2, p.1)) := rfl
@[simp] theorem seq_pr [DecidableEq α] [Enc α] (p : α × α) : seqOf (enc p) = some ([p.1, p.2].map enc) := rfl
end
/-- a callee of which the law S is known -/
structure Fn (C : Ctx) (k : Nat) (S : FS → Prop) : Prop where
  io : C.io k = []
  sp : S (C.fs k)
section
variable {C : Ctx}
def SInt (f : FS) : Prop := ∀ n : Int, f [.int n] = .ok (.bl true, [])
theorem r_is_integer : SInt (evF C [] 1 [.ret (.and_ (.isi (.slot 0) [.int]) (.not_ (.isi (.slot 0) [.bool])))]) := fun n => by
  refine evF_eq (η' := [some (.int n)]) ?_ (outs_nil _)
  simp [isiT, tyOf, kitN, tyIn]
def SBetween (f : FS) : Prop := ∀ n a b : Int, f [.int n, .int a, .int b] = .ok (.bl (decide (a ≤ n ∧ n ≤ b)), [])
theorem r_is_between {f0 : Nat} (h0 : Fn C f0 SInt) : SBetween (evF C [] 3 [.ret (.and_ (.call f0 [.slot 0]) (.chain .LtE .LtE (.slot 1) (.slot 0) (.slot 2)))]) := fun n a b => by
  refine evF_eq (η' := [some (.int n), some (.int a), some (.int b)]) ?_ (outs_nil _)
  have := h0.sp n
  simp [h0.io, this, callF]
  by_cases h : a ≤ n <;> simp [h]
def SIndex (f : FS) : Prop := ∀ n m : Nat, f [.int n, .int m] = .ok (.bl (decide (n < m)), [])
theorem r_is_index {f1 : Nat} (h1 : Fn C f1 SBetween) : SIndex (evF C [] 2 [.ret (.call f1 [.slot 0, .cst (.int 0), .bin .Sub (.slot 1) (.cst (.int 1))])]) := fun n m => by
  refine evF_eq (η' := [some (.int n), some (.int m)]) ?_ (outs_nil _)
  have := h1.sp n 0 (m - 1)
  have e : (0 ≤ (n : Int) ∧ (n : Int) ≤ (m : Int) - 1) ↔ n < m := by omega
  simp only [e] at this
  simp [h1.io, this, callF]
def STupleOf (f : FS) : Prop := ∀ (ts : List T) (n : Nat), fzs ts = true → f [.tup ts, .int n] = .ok (.bl (decide (ts.length = n)), [])
theorem r_is_tuple_of : STupleOf (evF C [] 2 [.ret (.and_ (.isi (.slot 0) [.tuple]) (.cmp .Eq (.bf .len [.slot 0]) (.slot 1)))]) := fun ts n h => by
  refine evF_eq (η' := [some (.tup ts), some (.int n)]) ?_ (outs_nil _)
  simp [isiT, tyOf, kitN, tyIn, h]
  omega
def okP (m : Nat) (p : Nat × Nat) : Prop := p.1 < m ∧ p.2 < m ∧ p.1 ≠ p.2
instance (m : Nat) (p : Nat × Nat) : Decidable (okP m p) := by unfold okP; infer_instance
def SPair (f : FS) : Prop := ∀ (p : Nat × Nat) (m : Nat), f [enc p, .int m] = .ok (.bl (decide (okP m p)), [])
theorem r_is_pair {f2 f3 : Nat} (hp : C.pin = []) (h2 : Fn C f2 SIndex) (h3 : Fn C f3 STupleOf) : SPair (evF C [] 3 [.ret (.and_ (.call f3 [.slot 0, .cst (.int 2)]) (.and_ (.bf .all [.lc (.call f2 [.slot 2, .slot 1]) (.s 2) (.val (.slot 0)) [] [2]]) (.cmp .NotEq (.idx (.slot 0) (.cst (.int 0))) (.idx (.slot 0) (.cst (.int 1))))))]) := fun p m => by
  refine evF_eq (η' := [some (enc p), some (.int m), none]) ?_ (outs_nil _)
  have e3 : C.fs f3 [enc p, .int (2 : Nat)] = .ok (.bl true, []) := h3.sp [enc p.1, enc p.2] 2 (by simp)
  have hl : evE C (.lc (.call f2 [.slot 2, .slot 1]) (.s 2) (.val (.slot 0)) [] [2]) [some (enc p), some (.int m), none] = .ok (.v (.lst true ([p.1, p.2].map fun n => .bl (decide (n < m)))), [some (enc p), some (.int m), none]) := by
    rw [lc_map enc (fun n => .bl (decide (n < m))) [p.1, p.2] (η1 := [some (enc p), some (.int m), none])]
    · simp
    · simp
    · simp [plainSl, hp]
    · simp [sizeL]
    · intro n _
      have := h2.sp n m
      simp [turnL, h2.io, callF, this]
  have ha : bfT .all [.lst true ([p.1, p.2].map fun n => T.bl (decide (n < m)))] = some (.bl (decide (p.1 < m) && decide (p.2 < m))) := by
    rw [f_all (bs := [p.1, p.2].map fun n => decide (n < m))] <;> simp
  simp only [List.map_cons, List.map_nil] at hl ha
  simp at e3
  simp [h3.io, callF, e3, hl, ha]
  by_cases h1 : p.1 < m <;> by_cases h2 : p.2 < m <;> by_cases h4 : p.1 = p.2 <;> simp [okP, h1, h2, h4]
  all_goals (try omega)
end
end TV
/-! lots, led pairs -/
namespace TV
open PySem L2
open Enc (enc)
abbrev Pr := Nat × Nat
theorem slc_tail (ts : List T) : slcT (.tup ts) (.int 1) .non = some (.tup ts.tail) := by
  have : optI (.int 1) = some (some 1) := by simp only [optI]; rw [if_pos (by omega)]
  cases ts with
  | nil => simp [slcT, this, optI, cut, sIx]
  | cons t ts =>
    have e : min 1 (ts.length + 1) = 1 := by omega
    simp [slcT, this, optI, cut, sIx, e]
def isAsc (l : List Pr) : Bool := (l.zip l.tail).all fun x => Enc.lt x.1 x.2
theorem isAsc_of {l : List Pr} (h : l.Pairwise fun a b => Enc.lt a b = true) : isAsc l = true := by
  unfold isAsc
  induction l with
  | nil => rfl
  | cons a l ih =>
    rw [List.pairwise_cons] at h
    cases l with
    | nil => rfl
    | cons b l =>
      have := ih h.2
      simp only [List.tail_cons, List.zip_cons_cons, List.all_cons, Bool.and_eq_true] at this ⊢
      exact ⟨h.1 b (by simp), this⟩
section
variable {C : Ctx}
def SAsc (f : FS) : Prop := ∀ l : List Pr, l.length ≤ 1000 → f [.tup (l.map enc)] = .ok (.bl (isAsc l), [])
theorem r_are_ascending (hp : C.pin = []) : SAsc (evF C [] 3 [.ret (.bf .all [.lc (.cmp .Lt (.slot 1) (.slot 2)) (.t [.s 1, .s 2]) (.zip (.slot 0) (.slc (.slot 0) (.cst (.int 1)) (.omit))) [] [1, 2]])]) := fun l hl => by
  refine evF_eq (η' := [some (.tup (l.map enc)), none, none]) ?_ (outs_nil _)
  have hlc : evE C (.lc (.cmp .Lt (.slot 1) (.slot 2)) (.t [.s 1, .s 2]) (.zip (.slot 0) (.slc (.slot 0) (.cst (.int 1)) (.omit))) [] [1, 2]) [some (.tup (l.map enc)), none, none] =
      .ok (.v (.lst true ((l.zip l.tail).map fun x => .bl (Enc.lt x.1 x.2))), [some (.tup (l.map enc)), none, none]) := by
    rw [lc_map enc (fun x : Pr × Pr => .bl (Enc.lt x.1 x.2)) (l.zip l.tail) (η1 := [some (.tup (l.map enc)), none, none])]
    · simp
    · simp [slc_tail, ← List.map_tail, List.zip_map, enc_pair]
    · simp [plainSl, hp]
    · simp [sizeL]; omega
    · intro x _
      simp [turnL, c_ltE (α := Pr) (by decide)]
  have ha : bfT .all [.lst true ((l.zip l.tail).map fun x => T.bl (Enc.lt x.1 x.2))] = some (.bl (isAsc l)) := by
    rw [f_all (bs := (l.zip l.tail).map fun x => Enc.lt x.1 x.2)]
    · simp [isAsc]
    · simp
  have hf : fzs ((l.zip l.tail).map fun x => T.bl (Enc.lt x.1 x.2)) = true := fzs_of fun t ht => by
    obtain ⟨x, _, rfl⟩ := List.mem_map.mp ht; simp
  simp [hlc, ha, hf]
/-- a home -/
def H (o : Bool) (m : Nat) (as : List Pr) : T := .obj o 0 ["many", "arrows"] [.int m, .tup (as.map enc)]
@[simp] theorem H_fl (o : Bool) (m : Nat) (as : List Pr) : (H o m as).fl = o := rfl
@[simp] theorem H_sh (o : Bool) (m : Nat) (as : List Pr) : (H o m as).sh = true := by simp [H]
@[simp] theorem H_fz (o : Bool) (m : Nat) (as : List Pr) : (H o m as).fz = !o := by simp [H]
@[simp] theorem H_frz (o : Bool) (m : Nat) (as : List Pr) : (H o m as).frz = H false m as := by simp [H]
theorem fpos_many : fpos ["many", "arrows"] "many" = some 0 := by decide +kernel
theorem fpos_arrows : fpos ["many", "arrows"] "arrows" = some 1 := by decide +kernel
theorem att_many {cl : List Nat} (h : cl.contains 0 = true) (η : Env) (o : Bool) (m : Nat) (as : List Pr) : attE cl η (.v (H o m as)) "many" = some (.v (.int m)) := by
  simp only [attE, H, h, fpos_many]; simp
theorem att_arrows {cl : List Nat} (h : cl.contains 0 = true) (η : Env) (o : Bool) (m : Nat) (as : List Pr) : attE cl η (.v (H o m as)) "arrows" = some (.v (.tup (as.map enc))) := by
  simp only [attE, H, h, fpos_arrows]; simp
def isLotB (m : Nat) (as l : List Pr) : Bool := l.all (fun p => decide (okP m p)) && (l.all (fun p => decide (p ∈ as)) && isAsc l)
def SLot (f : FS) : Prop := ∀ (m : Nat) (as l : List Pr), l.length ≤ 1000 → f [H false m as, .tup (l.map enc)] = .ok (.bl (isLotB m as l), [])
theorem fzs_bls {α : Type} (g : α → Bool) (l : List α) : fzs (l.map fun x => T.bl (g x)) = true := fzs_of fun t ht => by
  obtain ⟨x, _, rfl⟩ := List.mem_map.mp ht; simp
theorem all_bls {α : Type} (o : Bool) (g : α → Bool) (l : List α) : bfT .all [.lst o (l.map fun x => T.bl (g x))] = some (.bl (l.all g)) := by
  rw [f_all (bs := l.map g)]
  · simp [List.all_map]
  · simp
theorem any_bls {α : Type} (o : Bool) (g : α → Bool) (l : List α) : bfT .any [.lst o (l.map fun x => T.bl (g x))] = some (.bl (l.any g)) := by
  rw [f_any (bs := l.map g)]
  · simp [List.any_map]
  · simp
theorem r_is_lot {f4 f5 : Nat} (hp : C.pin = []) (hc : C.cl.contains 0 = true) (h4 : Fn C f4 SPair) (h5 : Fn C f5 SAsc) : SLot (evF C [] 3 [.ife (.tor (.tnot (.isi (.slot 1) [.tuple])) (.tnot (.bf .all [.lc (.call f4 [.slot 2, .att (.slot 0) "many"]) (.s 2) (.val (.slot 1)) [] [2]]))) [.ret (.cst (.bl false))] [],
    .ret (.and_ (.bf .all [.lc (.cmp .In (.slot 2) (.att (.slot 0) "arrows")) (.s 2) (.val (.slot 1)) [] [2]]) (.call f5 [.slot 1]))]) := fun m as l hl => by
  refine evF_eq (η' := [some (H false m as), some (.tup (l.map enc)), none]) ?_ (outs_nil _)
  have l1 : evE C (.lc (.call f4 [.slot 2, .att (.slot 0) "many"]) (.s 2) (.val (.slot 1)) [] [2]) [some (H false m as), some (.tup (l.map enc)), none] = .ok (.v (.lst true (l.map fun p => .bl (decide (okP m p)))), [some (H false m as), some (.tup (l.map enc)), none]) := by
    rw [lc_map enc (fun p : Pr => .bl (decide (okP m p))) l (η1 := [some (H false m as), some (.tup (l.map enc)), none])]
    · simp
    · simp
    · simp [plainSl, hp]
    · simp [sizeL]; omega
    · intro p _
      have := h4.sp p m
      simp [turnL, h4.io, callF, this, att_many hc]
  have l2 : evE C (.lc (.cmp .In (.slot 2) (.att (.slot 0) "arrows")) (.s 2) (.val (.slot 1)) [] [2]) [some (H false m as), some (.tup (l.map enc)), none] = .ok (.v (.lst true (l.map fun p => .bl (decide (p ∈ as)))), [some (H false m as), some (.tup (l.map enc)), none]) := by
    rw [lc_map enc (fun p : Pr => .bl (decide (p ∈ as))) l (η1 := [some (H false m as), some (.tup (l.map enc)), none])]
    · simp
    · simp
    · simp [plainSl, hp]
    · simp [sizeL]; omega
    · intro p _
      simp [turnL, att_arrows hc, c_inT (α := Pr) (by decide)]
  have h := h5.sp l hl
  simp [isiT, tyOf, kitN, tyIn, fzs_bls, all_bls, l1]
  cases e : l.all fun p => decide (okP m p)
  · simp [isLotB, e]
  · simp [isLotB, e, l2, fzs_bls, all_bls]
    cases e2 : l.all fun p => decide (p ∈ as)
    · simp
    · simp [h5.io, callF, h]
/-- the pairs as they are led -/
def ledP (as l : List Pr) : List Pr := srt (as.map fun p => if p ∈ l then (p.2, p.1) else p)
def SLed (f : FS) : Prop := ∀ (m : Nat) (as l : List Pr), l.length ≤ 1000 → as.length ≤ 1000 → l.Nodup → f [H false m as, .tup (l.map enc)] = .ok (.tup ((ledP as l).map enc), [])
theorem dic_trues_sh {α : Type} [DecidableEq α] [Enc α] (o : Bool) (l : List α) : (dicT o (l.map fun p => (p, T.bl true))).sh = true := by
  show fzs _ = true
  rw [List.map_map]
  exact fzs_bls (fun _ => true) l
theorem dic_fl {α : Type} [DecidableEq α] [Enc α] (o : Bool) (l : List (α × T)) : (dicT o l).fl = o := rfl
theorem in_trues {α : Type} [DecidableEq α] [Enc α] [KeyEnc α] (o : Bool) (l : List α) (a : α) : cmpT .In (enc a) (dicT o (l.map fun p => (p, T.bl true))) = some (.bl (decide (a ∈ l))) := by
  rw [c_inD, List.map_map]
  have : ((fun x : α × T => x.1) ∘ fun p => (p, T.bl true)) = id := rfl
  rw [this, List.map_id]
theorem nin_trues {α : Type} [DecidableEq α] [Enc α] [KeyEnc α] (o : Bool) (l : List α) (a : α) : cmpT .NotIn (enc a) (dicT o (l.map fun p => (p, T.bl true))) = some (.bl (!decide (a ∈ l))) := by
  rw [c_ninD, List.map_map]
  have : ((fun x : α × T => x.1) ∘ fun p => (p, T.bl true)) = id := rfl
  rw [this, List.map_id]
theorem r_raw_led (hp : C.pin = []) (hc : C.cl.contains 0 = true) : SLed (evF C [] 4 [.asg false (.s 2) (.dc (.slot 3) (.cst (.bl true)) (.s 3) (.val (.slot 1)) [] [3]), .ret (.bf .tuple [.bf .sorted [.lc (.ife (.cmp .In (.slot 3) (.slot 2)) (.rev (.slot 3) (.un .USub (.cst (.int 1)))) (.slot 3)) (.s 3) (.val (.att (.slot 0) "arrows")) [] [3]]])]) := fun m as l hl hla hnd => by
  obtain ⟨D, hD⟩ : ∃ D, D = dicT true (l.map fun p => (p, T.bl true)) := ⟨_, rfl⟩
  obtain ⟨M, hM⟩ : ∃ M, M = as.map fun p => if p ∈ l then (p.2, p.1) else p := ⟨_, rfl⟩
  have ef : D.fl = true := by rw [hD]; rfl
  have es : D.sh = true := by rw [hD]; exact dic_trues_sh _ _
  have e : ∀ p : Pr, cmpT .In (enc p) D = some (.bl (decide (p ∈ l))) := fun p => by rw [hD]; exact (in_trues true l p).trans (by congr)
  refine evF_eq (η' := [some (H false m as), some (.tup (l.map enc)), some D, none]) ?_ (outs_nil _)
  have l1 : evE C (.dc (.slot 3) (.cst (.bl true)) (.s 3) (.val (.slot 1)) [] [3]) [some (H false m as), some (.tup (l.map enc)), none, none] = .ok (.v D, [some (H false m as), some (.tup (l.map enc)), none, none]) := by
    rw [dc_map enc (fun p : Pr => p) (fun _ => .bl true) l (η1 := [some (H false m as), some (.tup (l.map enc)), none, none])]
    · simp [hD]
    · simp
    · simp [plainSl, hp]
    · simp [sizeL]; omega
    · simpa using hnd
    · intro p _
      simp [turnD]
  have l2 : evE C (.lc (.ife (.cmp .In (.slot 3) (.slot 2)) (.rev (.slot 3) (.un .USub (.cst (.int 1)))) (.slot 3)) (.s 3) (.val (.att (.slot 0) "arrows")) [] [3]) [some (H false m as), some (.tup (l.map enc)), some D, none] =
      .ok (.v (.lst true (M.map enc)), [some (H false m as), some (.tup (l.map enc)), some D, none]) := by
    rw [lc_map enc (fun p : Pr => enc (if p ∈ l then (p.2, p.1) else p)) as (η1 := [some (H false m as), some (.tup (l.map enc)), some D, none])]
    · simp [hM]
    · simp [att_arrows hc]
    · simp [plainSl, hp]
    · simp [sizeL]; omega
    · intro p _
      by_cases h : p ∈ l <;> simp [turnL, e, ef, es, h]
  have hs : bfT .sorted [.lst true (M.map enc)] = some (.lst true ((srt M).map enc)) := f_sortP (α := Nat) (β := Nat) (by decide) M rfl
  simp [hp, l1, l2, hs]
  rw [hM]; rfl
end
end TV
/-! next things, shortest ways -/
namespace TV
open PySem L2
open Enc (enc)
theorem range_le {n : Nat} (h : n ≤ 100000) : rngT [.int (n : Int)] = some ((List.range n).map enc) := range_small (by omega)
theorem range_le2 {a b : Nat} (ha : a ≤ 100000) (hb : b ≤ 100000) : rngT [.int (a : Int), .int (b : Int)] = some ((List.range' a (b - a)).map enc) := range_small2 (by omega) (by omega)
theorem it_rng1 {C : Ctx} {e : CE} {η η1 : Env} {o : Opd} {n : Nat} (he : evE C e η = .ok (o, η1)) (hd : dr η1 o = some (.int n)) (h : n ≤ 100000) : evIt C (.rng [e]) η = .ok ((List.range n).map enc, η1) := by
  have h1 : evs C [e] η = .ok ([o], η1) := by simp [he]
  rw [x_irng, h1, rb_ok]
  have h2 : drs η1 [o] = some [.int n] := by simp [hd]
  dsimp only
  rw [h2]
  dsimp only
  rw [range_le h]
  rfl
theorem it_rng2 {C : Ctx} {e f : CE} {η η1 : Env} {n m : Nat} (he : evs C [e, f] η = .ok ([.v (.int n), .v (.int m)], η1)) (h : n ≤ 100000) (h2 : m ≤ 100000) : evIt C (.rng [e, f]) η = .ok ((List.range' n (m - n)).map enc, η1) := by
  rw [x_irng, he, rb_ok]
  have h3 : drs η1 [.v (.int n), .v (.int m)] = some [.int n, .int m] := by simp
  dsimp only
  rw [h3]
  dsimp only
  rw [range_le2 h h2]
  rfl
@[simp] theorem at_lst1 (ts : List T) (j : Nat) : (T.lst true ts).at [j] = match ts[j]? with
    | some k => if k.fl then some k else none
    | none => none := by
  simp only [T.at, T.kids, fl_lst, if_true] <;> rfl
@[simp] theorem put_lst1 (o : Bool) (ts : List T) (j : Nat) (n : T) : (T.lst o ts).put [j] n = match ts[j]? with
    | some _ => .lst o (ts.set j n)
    | none => .lst o ts := by
  simp only [T.put, T.kids, T.setKids] <;> cases ts[j]? <;> rfl
@[simp] theorem kids_lst (o : Bool) (ts : List T) : kidsT (.lst o ts) = ts := rfl
@[simp] theorem kids_tup (ts : List T) : kidsT (.tup ts) = ts := rfl
@[simp] theorem kids_dic (o : Bool) (ks ts : List T) : kidsT (.dic o ks ts) = ts := rfl
def rowL (r : List Nat) : T := .lst true (r.map enc)
def rowF (r : List Nat) : T := .lst false (r.map enc)
def rowsF (rows : List (List Nat)) : T := .lst false (rows.map rowF)
/-- what comes next to each thing along pairs, as they stand -/
def rowsOf (m : Nat) (ps : List Pr) : List (List Nat) := (List.range m).map fun u => (ps.filter fun p => p.1 = u).map (·.2)
theorem rowsOf_len (m : Nat) (ps : List Pr) : (rowsOf m ps).length = m := by simp [rowsOf]
theorem rowsOf_get {m u : Nat} (h : u < m) (ps : List Pr) : (rowsOf m ps)[u]? = some ((ps.filter fun p => p.1 = u).map (·.2)) := by
  simp [rowsOf, List.getElem?_map, List.getElem?_range h]
theorem rowsOf_snoc {m : Nat} {p : Pr} (h : p.1 < m) (ps : List Pr) : rowsOf m (ps ++ [p]) = (rowsOf m ps).set p.1 (((ps.filter fun q => q.1 = p.1).map (·.2)) ++ [p.2]) := by
  refine List.ext_getElem? fun u => ?_
  rw [List.getElem?_set]
  by_cases hu : u < m
  · rw [rowsOf_get hu, rowsOf_get hu]
    by_cases e : p.1 = u
    · subst e
      simp [rowsOf_len, h]
    · simp [e]
  · rw [List.getElem?_eq_none (by rw [rowsOf_len]; omega), List.getElem?_eq_none (by rw [rowsOf_len]; omega)]
    split
    · omega
    · rfl
theorem filter_len_le (ps : List Pr) (u : Nat) : ((ps.filter fun p => p.1 = u).map (·.2)).length ≤ ps.length := by
  rw [List.length_map]; exact List.length_filter_le _ _
theorem frz_rows (rows : List (List Nat)) : frzs (rows.map rowL) = rows.map rowF := by
  induction rows with
  | nil => rfl
  | cons r rows ih => simp [ih, rowL, rowF]
theorem fzs_rowF (rows : List (List Nat)) : fzs (rows.map rowF) = true := by
  induction rows with
  | nil => rfl
  | cons r rows ih => simp [ih, rowF]
section
variable {C : Ctx}
def SeqP (t : T) (l : List Pr) : Prop := seqOf t = some (l.map enc) ∧ t.fl = false ∧ t.sh = true ∧ t.frz = t
theorem SeqP.tup (l : List Pr) : SeqP (.tup (l.map enc)) l := ⟨rfl, rfl, by simp, by simp⟩
theorem SeqP.lst (l : List Pr) : SeqP (.lst false (l.map enc)) l := ⟨rfl, rfl, by simp, by simp⟩
def SNext (f : FS) : Prop := ∀ (m : Nat) (l : List Pr) (t : T), SeqP t l → m ≤ 1000 → l.length ≤ 1000 → (∀ p ∈ l, p.1 < m) → f [.int m, t] = .ok (rowsF (rowsOf m (srt l)), [])
theorem next_l1 (hp : C.pin = []) {m : Nat} {t : T} (hm : m ≤ 1000) : evE C (.lc (.lst []) (.s 5) (.rng [.slot 0]) [] [5]) [some (.int m), some t, none, none, none, none] = .ok (.v (.lst true ((rowsOf m []).map rowL)), [some (.int m), some t, none, none, none, none]) := by
  rw [lc_map enc (fun _ => .lst true []) (List.range m) (η1 := [some (.int m), some t, none, none, none, none])]
  · simp [rowsOf]; intro a _; rfl
  · exact it_rng1 (o := .v (.int m)) (by simp) (by simp) (by omega)
  · simp [plainSl, hp]
  · simp [sizeL]; omega
  · intro n _
    simp [turnL]
theorem next_turn {m : Nat} {t : T} {ps : List Pr} {p : Pr} (hpl : p.1 < m) (hl : ps.length ≤ 1000) : evB C [.expr (.bm .append (.idx (.slot 2) (.slot 3)) [.slot 4])] [some (.int m), some t, some (.lst true ((rowsOf m ps).map rowL)), some (.int p.1), some (.int p.2), none] =
    .nx [some (.int m), some t, some (.lst true ((rowsOf m (ps ++ [p])).map rowL)), some (.int p.1), some (.int p.2), none] := by
  have hlt : ((rowsOf m ps).map rowL).length = m := by simp [rowsOf_len]
  have hr : ((rowsOf m ps).map rowL)[p.1]? = some (rowL ((ps.filter fun q => q.1 = p.1).map (·.2))) := by
    rw [List.getElem?_map, rowsOf_get hpl]; rfl
  have hfl : ∀ r, (rowL r).fl = true := fun _ => rfl
  have hbm : bmT .append (rowL ((ps.filter fun q => q.1 = p.1).map (·.2))) [.int p.2] = some (.non, rowL ((ps.filter fun q => q.1 = p.1).map (·.2) ++ [p.2])) := by
    have := filter_len_le ps p.1
    simp only [bmT, rowL]
    rw [if_pos (by rw [List.length_map]; simp only [sizeL]; omega)]
    simp
  have hch : childOf (.lst true ((rowsOf m ps).map rowL)) (.int p.1) = some p.1 := child_lst (by rw [hlt]; exact hpl)
  have hck : chkB .append (.pl 2 [p.1]) [some (.int m), some t, some (.lst true ((rowsOf m ps).map rowL)), some (.int p.1), some (.int p.2), none] = true := by
    simp only [chkB, kind_pl, get_cons]
    simp only [List.getElem?_cons_succ, List.getElem?_cons_zero, at_lst1, hr, hfl, if_true]
    rfl
  have hsn : (rowsOf m (ps ++ [p])).map rowL = ((rowsOf m ps).map rowL).set p.1 (rowL ((ps.filter fun q => q.1 = p.1).map (·.2) ++ [p.2])) := by
    rw [rowsOf_snoc hpl, List.map_set]
  simp [evLc, idxE, hch, hr, hfl, hck, bmGo, bmW, hbm, hsn]
theorem r_next_things (hp : C.pin = []) : SNext (evF C [] 6 [.asg false (.s 2) (.lc (.lst []) (.s 5) (.rng [.slot 0]) [] [5]), .for_ (.t [.s 3, .s 4]) (.val (.bf .sorted [.slot 1])) [.expr (.bm .append (.idx (.slot 2) (.slot 3)) [.slot 4])], .ret (.slot 2)]) := fun m l t ht hm hl hb => by
  obtain ⟨t1, t2, t3, t4⟩ := ht
  have l1 := next_l1 (C := C) hp (m := m) (t := t) hm
  have hs : bfT .sorted [t] = some (.lst true ((srt l).map enc)) := f_sortP (α := Nat) (β := Nat) (by decide) l t1
  have hlen : (srt l).length = l.length := srt_len l
  obtain ⟨η', h2, i2⟩ := for_run (C := C) (tg := .t [.s 3, .s 4]) (it := .val (.bf .sorted [.slot 1])) (b := [.expr (.bm .append (.idx (.slot 2) (.slot 3)) [.slot 4])])
    (η := [some (.int m), some t, some (.lst true ((rowsOf m []).map rowL)), none, none, none]) enc (srt l) (η1 := [some (.int m), some t, some (.lst true ((rowsOf m []).map rowL)), none, none, none]) (by simp [t2, t3, hs]) (by simp [hp])
    (fun i η => ∃ a b, η = [some (.int m), some t, some (.lst true ((rowsOf m ((srt l).take i)).map rowL)), a, b, none]) ⟨_, _, rfl⟩ (by
      rintro i p η hi ⟨a, b, rfl⟩
      refine ⟨_, _, ?_, .inl (next_turn (m := m) (t := t) (ps := (srt l).take i) (hb p (mem_srt.mp (List.mem_of_getElem? hi))) (by rw [List.length_take]; omega)), some (.int p.1), some (.int p.2), ?_⟩
      · simp
      · rw [List.take_add_one, hi, Option.toList_some])
  obtain ⟨a, b, rfl⟩ := i2
  refine evF_eq (η' := [some (.int m), some t, some (rowsF (rowsOf m (srt l))), a, b, none]) ?_ (outs_nil _)
  rw [List.take_of_length_le (Nat.le_refl _)] at h2
  simp [l1, hp]
  simp [h2, frz_rows, rowsF]
end
end TV
/-! shortest ways -/
namespace TV
open PySem L2
open Enc (enc)
abbrev WD := List (Nat × List Nat)
def keysW (D : WD) : List Nat := D.map (·.1)
/-- the things that come next are looked at: new ones are gathered, with their ways -/
def visit (path : List Nat) (vs : List Nat) (D : WD) : WD := vs.foldl (fun D v => if v ∈ keysW D then D else D ++ [(v, path ++ [v])]) D
def bfs (rows : List (List Nat)) (e : Nat) : Nat → Nat → WD → WD
  | 0, _, D => D
  | n + 1, a, D => match D[a]? with
    | some x => if e ∈ keysW D then D else bfs rows e n (a + 1) (visit x.2 (rows.getD x.1 []) D)
    | none => D
/-- the way to e, if there is one -/
def sw (m : Nat) (ps : List Pr) (b e : Nat) : Option (List Nat) := (bfs (rowsOf m (srt ps)) e (m + 1) 0 [(b, [b])]).lookup e
def wayT : Option (List Nat) → T
  | none => .non
  | some l => .tup (l.map enc)
def dW (D : WD) : T := dicT true (D.map fun x => (x.1, .tup (x.2.map enc)))
/-- how the gathered ways stand -/
structure WOk (m b : Nat) (D : WD) : Prop where
  nd : (keysW D).Nodup
  lt : ∀ x ∈ D, x.1 < m
  len : ∀ x ∈ D, x.2.length ≤ D.length
theorem keysW_dW (D : WD) : (D.map fun x => (x.1, T.tup (x.2.map enc))).map (·.1) = keysW D := by simp [keysW]
theorem nodup_lt_len : ∀ {m : Nat} {l : List Nat}, l.Nodup → (∀ x ∈ l, x < m) → l.length ≤ m
  | 0, l, _, h => by
    cases l with
    | nil => simp
    | cons x l => exact absurd (h x (by simp)) (by omega)
  | m + 1, l, hn, h => by
    have h1 := nodup_lt_len (m := m) (hn.erase m) fun x hx => by
      have := h x (List.mem_of_mem_erase hx)
      have : x ≠ m := fun e => by subst e; exact (List.Nodup.mem_erase_iff hn).mp hx |>.1 rfl
      omega
    have := List.length_erase_le (a := m) (l := l)
    by_cases hm : m ∈ l
    · have := List.length_erase_of_mem hm
      omega
    · rw [List.erase_of_not_mem hm] at h1; omega
theorem wok_le {m b : Nat} {D : WD} (h : WOk m b D) : D.length ≤ m := by
  have h1 : (keysW D).length ≤ m := by
    refine nodup_lt_len h.nd fun x hx => ?_
    obtain ⟨y, hy, rfl⟩ := List.mem_map.mp hx
    exact h.lt y hy
  simpa [keysW] using h1
theorem visit_ok {m b : Nat} {path : List Nat} : ∀ {vs : List Nat} {D : WD}, WOk m b D → (∀ v ∈ vs, v < m) → path.length ≤ D.length → WOk m b (visit path vs D) ∧ D.length ≤ (visit path vs D).length
  | [], D, h, _, _ => ⟨h, Nat.le_refl _⟩
  | v :: vs, D, h, hv, hp => by
    rw [show visit path (v :: vs) D = visit path vs (if v ∈ keysW D then D else D ++ [(v, path ++ [v])]) from rfl]
    by_cases e : v ∈ keysW D
    · rw [if_pos e]
      exact visit_ok h (fun w hw => hv w (by simp [hw])) hp
    · rw [if_neg e]
      have h' : WOk m b (D ++ [(v, path ++ [v])]) := by
        refine ⟨?_, fun x hx => ?_, fun x hx => ?_⟩
        · simp only [keysW, List.map_append, List.map_cons, List.map_nil]
          rw [List.nodup_append]
          refine ⟨h.nd, by simp, fun a ha b hb => ?_⟩
          simp only [List.mem_singleton] at hb
          subst hb
          rintro rfl
          exact e ha
        · rcases List.mem_append.mp hx with hx | hx
          · exact h.lt x hx
          · simp only [List.mem_singleton] at hx; subst hx; exact hv v (by simp)
        · rw [List.length_append, List.length_singleton]
          rcases List.mem_append.mp hx with hx | hx
          · have := h.len x hx; omega
          · simp only [List.mem_singleton] at hx; subst hx
            simp only [List.length_append, List.length_singleton]; omega
      obtain ⟨r1, r2⟩ := visit_ok (path := path) (vs := vs) h' (fun w hw => hv w (by simp [hw])) (by rw [List.length_append]; omega)
      refine ⟨r1, ?_⟩
      rw [List.length_append] at r2; omega
theorem visit_snoc (path vs : List Nat) (v : Nat) (D : WD) : visit path (vs ++ [v]) D = if v ∈ keysW (visit path vs D) then visit path vs D else visit path vs D ++ [(v, path ++ [v])] := by
  simp only [visit, List.foldl_append, List.foldl_cons, List.foldl_nil] <;> rfl
section
variable {C : Ctx}
/-- an owned dict in a slot, read at a key -/
theorem idx_dW {η : Env} {i a : Nat} {D : WD} {x : Nat × List Nat} (hη : η[i]? = some (some (dW D))) (hnd : (keysW D).Nodup) (hx : D[a]? = some x) : idxE η (.pl i []) (.int x.1) = some (.v (.tup (x.2.map enc))) := by
  have hm : x.1 ∈ (D.map fun x => (x.1, T.tup (x.2.map enc))).map (·.1) := by
    rw [keysW_dW]; exact List.mem_map.mpr ⟨x, List.mem_of_getElem? hx, rfl⟩
  obtain ⟨j, h1, y, h2⟩ := posD_some hm
  have hc : childOf (dW D) (.int x.1) = some j := by
    have := child_dic true (D.map fun x => (x.1, T.tup (x.2.map enc))) x.1
    rw [h1] at this
    exact this
  rw [List.getElem?_map] at h2
  obtain ⟨z, h3, h4⟩ := Option.map_eq_some_iff.mp h2
  simp only [Prod.mk.injEq] at h4
  have hz : z = x := by
    obtain ⟨ha, ea⟩ := List.getElem?_eq_some_iff.mp hx
    obtain ⟨hj, ej⟩ := List.getElem?_eq_some_iff.mp h3
    have ha' : a < (keysW D).length := by simpa [keysW] using ha
    have hj' : j < (keysW D).length := by simpa [keysW] using hj
    have e1 : (keysW D)[j] = (keysW D)[a] := by simp [keysW, ea, ej, h4.1]
    have e2 := (List.getElem_inj hnd).mp e1
    subst e2
    rw [← ea, ← ej]
  subst hz
  have hfl : (dW D).fl = true := rfl
  have hk : (kidsT (dW D))[j]? = some (.tup (z.2.map enc)) := by
    show ((D.map fun x => (x.1, T.tup (x.2.map enc))).map (·.2))[j]? = _
    rw [List.map_map, List.getElem?_map, h3]
    rfl
  simp only [idxE, get_nil, hη, hfl, if_true, hc, hk, fl_tup]
  rfl
/-- one thing looked at -/
theorem way_turn (hp : C.pin = []) {m b a v : Nat} {D0 D : WD} {x : Nat × List Nat} {s0 s1 s2 s3 s4 s7 s9 : Option T} (hm : m ≤ 1000) (hok : WOk m b D) (hx : D[a]? = some x) (hv : v < m) :
    evB C [.ife (.cmp .NotIn (.slot 9) (.slot 5)) [.asgIx (.slot 5) (.slot 9) (.bin .Add (.idx (.slot 5) (.slot 8)) (.tup [.slot 9])), .expr (.bm .append (.slot 6) [.slot 9])] []] [s0, s1, s2, s3, s4, some (dW D), some (.lst true ((keysW D).map enc)), s7, some (.int x.1), some (.int v)] =
      .nx [s0, s1, s2, s3, s4, some (dW (visit x.2 [v] D)), some (.lst true ((keysW (visit x.2 [v] D)).map enc)), s7, some (.int x.1), some (.int v)] := by
  have hle := wok_le hok
  have hfl : (dW D).fl = true := rfl
  have hsh : (dW D).sh = true := by
    show fzs _ = true
    rw [List.map_map]
    exact fzs_of fun t ht => by
      obtain ⟨y, _, rfl⟩ := List.mem_map.mp ht
      simp
  have hnin : cmpT .NotIn (.int v) (dW D) = some (.bl (!decide (v ∈ keysW D))) := by
    have := c_ninD true (D.map fun x => (x.1, T.tup (x.2.map enc))) v
    rw [keysW_dW] at this
    exact this
  by_cases e : v ∈ keysW D
  · have ev : visit x.2 [v] D = D := by simp [visit, e]
    simp [hfl, hsh, hnin, e, ev]
  · have ev : visit x.2 [v] D = D ++ [(v, x.2 ++ [v])] := by simp [visit, e]
    have hidx : ∀ s6 s9, idxE [s0, s1, s2, s3, s4, some (dW D), s6, s7, some (.int x.1), s9] (.pl 5 []) (.int x.1) = some (.v (.tup (x.2.map enc))) := fun s6 s9 => idx_dW rfl hok.nd hx
    have hlen := hok.len x (List.mem_of_getElem? hx)
    have hadd : binT .Add (.tup (x.2.map enc)) (.tup [.int v]) = some (.tup ((x.2 ++ [v]).map enc)) := by
      simp only [binT]
      rw [if_pos (by simp only [List.length_map, List.length_cons, List.length_nil, sizeL]; omega)]
      simp
    have hset : setT (dW D) (.int v) (.tup ((x.2 ++ [v]).map enc)) = some (dW (D ++ [(v, x.2 ++ [v])])) := by
      have := set_new (kv := D.map fun x => (x.1, T.tup (x.2.map enc))) (a := v) (by rw [keysW_dW]; exact e) (by rw [List.length_map]; simp only [sizeL]; omega) (.tup ((x.2 ++ [v]).map enc))
      rw [show dW (D ++ [(v, x.2 ++ [v])]) = dicT true ((D.map fun x => (x.1, T.tup (x.2.map enc))) ++ [(v, .tup ((x.2 ++ [v]).map enc))]) by simp [dW]]
      exact this
    have hap : bmT .append (.lst true ((keysW D).map enc)) [.int v] = some (.non, .lst true ((keysW (D ++ [(v, x.2 ++ [v])])).map enc)) := by
      simp only [bmT]
      rw [if_pos (by simp only [List.length_map, keysW, sizeL]; omega)]
      simp [keysW]
    have hck : ∀ s5, chkB .append (.pl 6 []) [s0, s1, s2, s3, s4, s5, some (.lst true ((keysW D).map enc)), s7, some (.int x.1), some (.int v)] = true := fun s5 => rfl
    simp only [List.map_append, List.map_cons, List.map_nil, enc_nat] at hset hadd
    simp [hfl, hsh, hnin, e, hidx, hadd, hset, evLc, hck, bmGo, bmW, hap, ev]
theorem visit_pre (path : List Nat) : ∀ (vs : List Nat) (D : WD), ∃ ext, visit path vs D = D ++ ext
  | [], D => ⟨[], by simp [visit]⟩
  | v :: vs, D => by
    rw [show visit path (v :: vs) D = visit path vs (if v ∈ keysW D then D else D ++ [(v, path ++ [v])]) from rfl]
    obtain ⟨ext, h⟩ := visit_pre path vs (if v ∈ keysW D then D else D ++ [(v, path ++ [v])])
    rw [h]
    split
    · exact ⟨ext, rfl⟩
    · exact ⟨_, by rw [List.append_assoc]⟩
theorem visit_one (path : List Nat) (v : Nat) (D : WD) : visit path [v] D = if v ∈ keysW D then D else D ++ [(v, path ++ [v])] := rfl
def SWay (f : FS) : Prop := ∀ (m : Nat) (l : List Pr) (t : T) (b e : Nat), SeqP t l → m ≤ 1000 → l.length ≤ 1000 → (∀ p ∈ l, p.1 < m ∧ p.2 < m) → b < m → f [.int m, t, .int b, .int e] = .ok (wayT (sw m l b e), [])
def wayBody : List CS := [.asg false (.s 8) (.idx (.slot 6) (.slot 7)), .for_ (.s 9) (.val (.idx (.slot 4) (.slot 8))) [.ife (.cmp .NotIn (.slot 9) (.slot 5)) [.asgIx (.slot 5) (.slot 9) (.bin .Add (.idx (.slot 5) (.slot 8)) (.tup [.slot 9])), .expr (.bm .append (.slot 6) [.slot 9])] []], .aug 7 .Add (.cst (.int 1))]
def wSt (m : Nat) (t : T) (b e : Nat) (rows : List (List Nat)) (a : Nat) (D : WD) (s8 s9 : Option T) : Env := [some (.int m), some t, some (.int b), some (.int e), some (rowsF rows), some (dW D), some (.lst true ((keysW D).map enc)), some (.int a), s8, s9]
theorem way_body (hp : C.pin = []) {m b e a : Nat} {t : T} {l : List Pr} {D : WD} {x : Nat × List Nat} {s8 s9 : Option T} (hm : m ≤ 1000) (hb : ∀ p ∈ l, p.2 < m) (hok : WOk m b D) (hx : D[a]? = some x) :
    ∃ s8' s9', evB C wayBody (wSt m t b e (rowsOf m l) a D s8 s9) = .nx (wSt m t b e (rowsOf m l) (a + 1) (visit x.2 ((rowsOf m l).getD x.1 []) D) s8' s9') := by
  have hle := wok_le hok
  have ha : a < D.length := (List.getElem?_eq_some_iff.mp hx).1
  have hxm : x.1 < m := hok.lt x (List.mem_of_getElem? hx)
  have hk : childOf (.lst true ((keysW D).map enc)) (.int a) = some a := child_lst (by simpa [keysW] using ha)
  have hka : ((keysW D).map enc)[a]? = some (.int x.1) := by simp [keysW, hx]
  have hr : (rowsOf m l).getD x.1 [] = (l.filter fun p => p.1 = x.1).map (·.2) := by
    rw [List.getD_eq_getElem?_getD, rowsOf_get hxm]; rfl
  have hrow : childOf (rowsF (rowsOf m l)) (.int x.1) = some x.1 := child_lst (by simpa [rowsOf_len] using hxm)
  have hrs : (rowsF (rowsOf m l)).sh = true := fzs_rowF _
  have hrf : (rowsF (rowsOf m l)).fl = false := rfl
  have hrk : (kidsT (rowsF (rowsOf m l)))[x.1]? = some (rowF ((l.filter fun p => p.1 = x.1).map (·.2))) := by
    show ((rowsOf m l).map rowF)[x.1]? = _
    rw [List.getElem?_map, rowsOf_get hxm]; rfl
  have hfr : ∀ r, (rowF r).frz = rowF r := fun r => by simp [rowF]
  have hsq : ∀ r, seqOf (rowF r) = some (r.map enc) := fun r => rfl
  have hfl : (dW D).fl = true := rfl
  let vs := (l.filter fun p => p.1 = x.1).map (·.2)
  have hvs : ∀ v ∈ vs, v < m := fun v hv => by
    obtain ⟨p, hp', rfl⟩ := List.mem_map.mp hv
    exact hb p (List.mem_filter.mp hp').1
  have hlen := hok.len x (List.mem_of_getElem? hx)
  obtain ⟨η', h2, s9', i2⟩ := for_run (C := C) (tg := .s 9) (it := .val (.idx (.slot 4) (.slot 8))) (b := [.ife (.cmp .NotIn (.slot 9) (.slot 5)) [.asgIx (.slot 5) (.slot 9) (.bin .Add (.idx (.slot 5) (.slot 8)) (.tup [.slot 9])), .expr (.bm .append (.slot 6) [.slot 9])] []])
    (η := wSt m t b e (rowsOf m l) a D (some (.int x.1)) s9) (η1 := wSt m t b e (rowsOf m l) a D (some (.int x.1)) s9) enc vs (by
      simp [wSt, hrf, idxE, hrs, hrow, hrk, hfr, hsq, vs]) (by simp [hp])
    (fun i η => ∃ s9', η = wSt m t b e (rowsOf m l) a (visit x.2 (vs.take i) D) (some (.int x.1)) s9') ⟨s9, by simp [visit]⟩ (by
      rintro i v η hi ⟨s, rfl⟩
      have hv : v < m := hvs v (List.mem_of_getElem? hi)
      obtain ⟨w1, w2⟩ := visit_ok (path := x.2) (vs := vs.take i) hok (fun w hw => hvs w (List.mem_of_mem_take hw)) hlen
      have hx' : (visit x.2 (vs.take i) D)[a]? = some x := by
        obtain ⟨ext, he⟩ := visit_pre x.2 (vs.take i) D
        rw [he, List.getElem?_append_left ha, hx]
      refine ⟨_, _, ?_, .inl (way_turn (C := C) hp (s0 := some (.int m)) (s1 := some t) (s2 := some (.int b)) (s3 := some (.int e)) (s4 := some (rowsF (rowsOf m l))) (s7 := some (.int a)) (D0 := D) (s9 := s) hm w1 hx' hv), some (.int v), ?_⟩
      · simp [wSt]
      · have ev : visit x.2 (vs.take (i + 1)) D = visit x.2 [v] (visit x.2 (vs.take i) D) := by
          rw [List.take_add_one, hi, Option.toList_some, visit_snoc, visit_one]
        rw [ev]; rfl)
  rw [List.take_of_length_le (Nat.le_refl _)] at i2
  subst i2
  refine ⟨some (.int x.1), s9', ?_⟩
  rw [hr]
  have h2' : evS C (.for_ (.s 9) (.val (.idx (.slot 4) (.slot 8))) [.ife (.cmp .NotIn (.slot 9) (.slot 5)) [.asgIx (.slot 5) (.slot 9) (.bin .Add (.idx (.slot 5) (.slot 8)) (.tup [.slot 9])), .expr (.bm .append (.slot 6) [.slot 9])] []])
      [some (.int m), some t, some (.int b), some (.int e), some (rowsF (rowsOf m l)), some (dW D), some (.lst true ((keysW D).map enc)), some (.int a), some (.int x.1), s9] = .nx (wSt m t b e (rowsOf m l) a (visit x.2 vs D) (some (.int x.1)) s9') := h2
  simp [wayBody, wSt, hp, idxE, hk, hka]
  rw [h2']
  simp [wSt, hp, vs]
theorem lookup_pos : ∀ {D : WD} {e : Nat} {w : List Nat}, D.lookup e = some w → ∃ j : Nat, posD (D.map fun x => (x.1, T.tup (x.2.map enc))) e = some j ∧ D[j]? = some (e, w)
  | [], e, w, h => by simp at h
  | (k, v) :: D, e, w, h => by
    rw [List.lookup_cons] at h
    by_cases hk : k = e
    · subst hk
      simp at h
      subst h
      exact ⟨0, by simp [posD, List.findIdx?_cons], rfl⟩
    · have : (e == k) = false := by simpa using Ne.symm hk
      rw [this] at h
      obtain ⟨j, h1, h2⟩ := lookup_pos h
      refine ⟨j + 1, ?_, by simpa using h2⟩
      simp only [posD, List.map_cons, List.findIdx?_cons, hk, decide_false, Bool.false_eq_true, if_false] at h1 ⊢
      rw [h1]; rfl
theorem bfs_end {rows : List (List Nat)} {e n a : Nat} {D : WD} (h : ¬ (a < D.length ∧ e ∉ keysW D)) : bfs rows e n a D = D := by
  cases n with
  | zero => rfl
  | succ n =>
    unfold bfs
    cases hx : D[a]? with
    | none => rfl
    | some x =>
      have ha : a < D.length := (List.getElem?_eq_some_iff.mp hx).1
      have : e ∈ keysW D := Decidable.not_not.mp fun z => h ⟨ha, z⟩
      simp [this]
theorem r_shortest_way {f7 : Nat} (hp : C.pin = []) (h7 : Fn C f7 SNext) : SWay (evF C [] 10 [.asg false (.s 4) (.call f7 [.slot 0, .slot 1]), .asg false (.s 5) (.dic1 (.slot 2) (.tup [.slot 2])), .asg false (.s 6) (.lst [.slot 2]), .asg false (.s 7) (.cst (.int 0)), .whl (.tand (.cmp .Lt (.slot 7) (.bf .len [.slot 6])) (.cmp .NotIn (.slot 3) (.slot 5))) wayBody, .ret (.bm .get (.slot 5) [.slot 3])]) := fun m l t b e ht hm hl hb hbm => by
  obtain ⟨t1, t2, t3, t4⟩ := ht
  have hc := h7.sp m l t ⟨t1, t2, t3, t4⟩ hm hl fun p hp => (hb p hp).1
  have hrf : ∀ r, (rowsF r).fl = false := fun _ => rfl
  have hb' : ∀ p ∈ srt l, p.2 < m := fun p hp => (hb p (mem_srt.mp hp)).2
  obtain ⟨η', h2, D, a, s8, s9, hD, rfl⟩ := whl_run (C := C) (t := .tand (.cmp .Lt (.slot 7) (.bf .len [.slot 6])) (.cmp .NotIn (.slot 3) (.slot 5))) (b := wayBody) (η := wSt m t b e (rowsOf m (srt l)) 0 [(b, [b])] none none)
    (fun η => ∃ n a D s8 s9, η = wSt m t b e (rowsOf m (srt l)) a D s8 s9 ∧ WOk m b D ∧ n + a = m + 1 ∧ bfs (rowsOf m (srt l)) e n a D = bfs (rowsOf m (srt l)) e (m + 1) 0 [(b, [b])])
    (fun η => ∃ D a s8 s9, D = bfs (rowsOf m (srt l)) e (m + 1) 0 [(b, [b])] ∧ η = wSt m t b e (rowsOf m (srt l)) a D s8 s9)
    (fun (η : Env) => match η[7]? with | some (some (T.int a)) => (2000 - a).toNat | _ => 0)
    ⟨m + 1, 0, [(b, [b])], none, none, rfl, ⟨by simp [keysW], by simp [hbm], by simp⟩, rfl, rfl⟩ (by simp [wSt])
    (by
      rintro η ⟨n, a, D, s8, s9, rfl, hok, hn, hbf⟩
      have hle := wok_le hok
      have hfl : (dW D).fl = true := rfl
      have hsh : (dW D).sh = true := by
        show fzs _ = true
        rw [List.map_map]
        exact fzs_of fun t ht => by
          obtain ⟨y, _, rfl⟩ := List.mem_map.mp ht
          simp
      have hnin : cmpT .NotIn (.int e) (dW D) = some (.bl (!decide (e ∈ keysW D))) := by
        have := c_ninD true (D.map fun x => (x.1, T.tup (x.2.map enc))) e
        rw [keysW_dW] at this
        exact this
      have hkl : (keysW D).length = D.length := by simp [keysW]
      refine ⟨.v (.bl (decide (a < D.length ∧ e ∉ keysW D))), decide (a < D.length ∧ e ∉ keysW D), wSt m t b e (rowsOf m (srt l)) a D s8 s9, ?_, rfl, fun hk => ?_, fun hk => ?_⟩
      · by_cases h1 : a < D.length
        · simp [wSt, hkl, h1, hfl, hsh, hnin]
        · simp [wSt, hkl, h1]
      · simp only [decide_eq_true_eq] at hk
        obtain ⟨ha, he⟩ := hk
        have hx : D[a]? = some D[a] := List.getElem?_eq_getElem ha
        obtain ⟨s8', s9', hbd⟩ := way_body (C := C) hp (t := t) (b := b) (e := e) (s8 := s8) (s9 := s9) hm hb' hok hx
        refine ⟨_, .inl hbd, ⟨n - 1, a + 1, _, s8', s9', rfl, ?_, by omega, ?_⟩, ?_⟩
        · refine (visit_ok hok (fun v hv => ?_) (hok.len _ (List.getElem_mem ha))).1
          have hxm : D[a].1 < m := hok.lt _ (List.getElem_mem ha)
          rw [List.getD_eq_getElem?_getD, rowsOf_get hxm] at hv
          obtain ⟨p, hp', rfl⟩ := List.mem_map.mp hv
          exact hb' p (List.mem_filter.mp hp').1
        · rw [← hbf]
          obtain ⟨k, rfl⟩ : ∃ k, n = k + 1 := ⟨n - 1, by omega⟩
          rw [show bfs (rowsOf m (srt l)) e (k + 1) a D = match D[a]? with
            | some x => if e ∈ keysW D then D else bfs (rowsOf m (srt l)) e k (a + 1) (visit x.2 ((rowsOf m (srt l)).getD x.1 []) D)
            | none => D from rfl, hx]
          simp [he]
        · simp only [wSt, List.getElem?_cons_succ, List.getElem?_cons_zero]
          omega
      · simp only [decide_eq_false_iff_not] at hk
        exact ⟨D, a, s8, s9, by rw [← hbf, bfs_end hk], rfl⟩)
  refine evF_eq (η' := wSt m t b e (rowsOf m (srt l)) a D s8 s9) ?_ (outs_nil _)
  have hfl : (dW D).fl = true := rfl
  have hsh : (dW D).sh = true := by
    show fzs _ = true
    rw [List.map_map]
    exact fzs_of fun t ht => by
      obtain ⟨y, _, rfl⟩ := List.mem_map.mp ht
      simp
  have h2' : evS C (.whl (.tand (.cmp .Lt (.slot 7) (.bf .len [.slot 6])) (.cmp .NotIn (.slot 3) (.slot 5))) wayBody) [some (.int m), some t, some (.int b), some (.int e), some (rowsF (rowsOf m (srt l))), some (.dic true [.int b] [.tup [.int b]]), some (.lst true [.int b]), some (.int 0), none, none] = _ := h2
  have hget : bmR .get [dW D, .int e] = some (wayT (sw m l b e)) := by
    unfold sw
    rw [← hD]
    cases hlk : D.lookup e with
    | none =>
      refine getD_none (a := e) ?_
      rw [keysW_dW]
      intro hm'
      obtain ⟨x, hx, rfl⟩ := List.mem_map.mp hm'
      exact absurd hlk (by
        rw [List.lookup_eq_none_iff]
        intro h
        have := h x hx
        simp at this)
    | some w =>
      have hmem := lookup_pos hlk
      obtain ⟨j, hj1, hj2⟩ := hmem
      exact getD_some (a := e) (j := j) hj1 (by rw [List.getElem?_map, hj2]; rfl)
  simp [h7.io, callF, hc, hp, t2, t4, keyOk, isTup]
  rw [h2']
  have hck : ∀ η : Env, η[5]? = some (some (dW D)) → chkB .get (.pl 5 []) η = true := fun η h => by simp only [chkB, kind_pl, get_nil, h, hfl, if_true] <;> rfl
  simp [wSt, evLc, hfl, hsh, hget, bmGo, bmW, hck]
end
end TV
/-! rings, homes -/
namespace TV
open PySem L2
open Enc (enc)
/-- no ring: things can be ranked so that pairs ascend -/
def Acyc (l : List Pr) : Prop := ∃ r : Nat → Nat, ∀ p ∈ l, r p.1 < r p.2
theorem visit_inv {P : Nat → Prop} {path : List Nat} : ∀ {vs : List Nat} {D : WD}, (∀ v ∈ vs, P v) → (∀ x ∈ D, P x.1) → ∀ x ∈ visit path vs D, P x.1
  | [], D, _, h, x, hx => h x hx
  | v :: vs, D, hv, h, x, hx => by
    rw [show visit path (v :: vs) D = visit path vs (if v ∈ keysW D then D else D ++ [(v, path ++ [v])]) from rfl] at hx
    refine visit_inv (vs := vs) (fun w hw => hv w (by simp [hw])) (fun y hy => ?_) x hx
    split at hy
    · exact h y hy
    · rcases List.mem_append.mp hy with hy | hy
      · exact h y hy
      · simp only [List.mem_singleton] at hy; subst hy; exact hv v (by simp)
theorem bfs_inv {P : Nat → Prop} {rows : List (List Nat)} {e : Nat} (hc : ∀ u, P u → ∀ v ∈ rows.getD u [], P v) : ∀ {n a : Nat} {D : WD}, (∀ x ∈ D, P x.1) → ∀ x ∈ bfs rows e n a D, P x.1
  | 0, _, _, h => h
  | n + 1, a, D, h => by
    unfold bfs
    split
    · rename_i y hy
      split
      · exact h
      · exact bfs_inv hc (visit_inv (hc y.1 (h y (List.mem_of_getElem? hy))) h)
    · exact h
/-- what is closed under the pairs holds no way out -/
theorem sw_none {m : Nat} {l : List Pr} {b e : Nat} (P : Nat → Prop) (hc : ∀ p ∈ l, P p.1 → P p.2) (hb : P b) (he : ¬ P e) : sw m l b e = none := by
  unfold sw
  have h := bfs_inv (P := P) (rows := rowsOf m (srt l)) (e := e) (fun u hu v hv => by
    by_cases hm : u < m
    · rw [List.getD_eq_getElem?_getD, rowsOf_get hm] at hv
      obtain ⟨p, hp, rfl⟩ := List.mem_map.mp hv
      obtain ⟨h1, h2⟩ := List.mem_filter.mp hp
      have : p.1 = u := by simpa using h2
      exact hc p (mem_srt.mp h1) (by rw [this]; exact hu)
    · rw [List.getD_eq_getElem?_getD, List.getElem?_eq_none (by rw [rowsOf_len]; omega)] at hv
      simp at hv) (n := m + 1) (a := 0) (D := [(b, [b])]) (by simpa using hb)
  rw [List.lookup_eq_none_iff]
  intro x hx
  have := h x hx
  have hne : e ≠ x.1 := fun e' => he (by rw [e']; exact this)
  simpa using hne
theorem sw_acyc {m : Nat} {l : List Pr} (ha : Acyc l) {p : Pr} (hp : p ∈ l) : sw m l p.2 p.1 = none := by
  obtain ⟨r, hr⟩ := ha
  refine sw_none (fun u => r p.2 ≤ r u) (fun q hq h => Nat.le_trans h (Nat.le_of_lt (hr q hq))) (Nat.le_refl _) ?_
  have := hr p hp
  omega
section
variable {C : Ctx}
def SRing0 (f : FS) : Prop := ∀ (m : Nat) (l : List Pr) (t : T), SeqP t l → m ≤ 1000 → l.length ≤ 1000 → (∀ p ∈ l, p.1 < m ∧ p.2 < m) → (∀ p ∈ l, sw m l p.2 p.1 = none) → f [.int m, t] = .ok (.non, [])
theorem r_shortest_ring0 {f8 : Nat} {rest : List CS} (hp : C.pin = []) (h8 : Fn C f8 SWay) : SRing0 (evF C [] 7 [.asg false (.s 2) (.lst []), .for_ (.t [.s 3, .s 4]) (.val (.slot 1)) [.asg false (.s 5) (.call f8 [.slot 0, .slot 1, .slot 4, .slot 3]), .ife (.cmp .IsNot (.slot 5) (.cst .non)) rest []],
    .ret (.ife (.cmp .Gt (.bf .len [.slot 2]) (.cst (.int 0))) (.idx (.bf .min [.slot 2]) (.cst (.int 1))) (.cst .non))]) := fun m l t ht hm hl hb hn => by
  obtain ⟨t1, t2, t3, t4⟩ := ht
  obtain ⟨η', h2, a, b, c, rfl⟩ := for_run (C := C) (tg := .t [.s 3, .s 4]) (it := .val (.slot 1)) (b := [.asg false (.s 5) (.call f8 [.slot 0, .slot 1, .slot 4, .slot 3]), .ife (.cmp .IsNot (.slot 5) (.cst .non)) rest []])
    (η := [some (.int m), some t, some (.lst true []), none, none, none, none]) (η1 := [some (.int m), some t, some (.lst true []), none, none, none, none]) enc l (by simp [t1, t2, t4]) (by simp [hp])
    (fun i η => ∃ a b c, η = [some (.int m), some t, some (.lst true []), a, b, c, none]) ⟨_, _, _, rfl⟩ (by
      rintro i p η hi ⟨a, b, c, rfl⟩
      have hpl := List.mem_of_getElem? hi
      have hs := h8.sp m l t p.2 p.1 ⟨t1, t2, t3, t4⟩ hm hl hb (hb p hpl).2
      rw [hn p hpl] at hs
      refine ⟨[some (.int m), some t, some (.lst true []), some (.int p.1), some (.int p.2), c, none], [some (.int m), some t, some (.lst true []), some (.int p.1), some (.int p.2), some .non, none], ?_, .inl ?_, _, _, _, rfl⟩
      · simp
      · simp [h8.io, callF, hs, hp, t2, t4, wayT])
  refine evF_eq (η' := [some (.int m), some t, some (.lst true []), a, b, c, none]) ?_ (outs_nil _)
  simp [hp]
  rw [h2]
  simp
theorem srt_two {a b c d : Nat} (h : srt [a, b] = srt [c, d]) : (a = c ∧ b = d) ∨ (a = d ∧ b = c) := by
  have hp : [a, b].Perm [c, d] := (srt_perm [a, b]).symm.trans (h ▸ srt_perm [c, d])
  have h1 : a ∈ [c, d] := hp.mem_iff.mp (by simp)
  have h2 : b ∈ [c, d] := hp.mem_iff.mp (by simp)
  have h3 : c ∈ [a, b] := hp.mem_iff.mpr (by simp)
  have h4 : d ∈ [a, b] := hp.mem_iff.mpr (by simp)
  simp only [List.mem_cons, List.not_mem_nil, or_false] at *
  omega
/-- no two things with more than one pair -/
def Apart (l : List Pr) : Prop := l.Pairwise fun p q => p ≠ q ∧ p ≠ (q.2, q.1)
theorem apart_keys {l : List Pr} (h : Apart l) : (l.map fun p => srt [p.1, p.2]).Nodup := by
  unfold Apart at h
  rw [List.Nodup, List.pairwise_map]
  refine h.imp fun {p q} ⟨h1, h2⟩ e => ?_
  rcases srt_two e with ⟨e1, e2⟩ | ⟨e1, e2⟩
  · exact h1 (Prod.ext e1 e2)
  · exact h2 (Prod.ext e1 e2)
def SArr (f : FS) : Prop := ∀ (m : Nat) (l : List Pr), l.length ≤ 1000 → (∀ p ∈ l, okP m p) → Apart l → f [.int m, .tup (l.map enc)] = .ok (.bl true, [])
theorem r_are_arrows {f4 : Nat} (hp : C.pin = []) (h4 : Fn C f4 SPair) : SArr (evF C [] 3 [.ife (.tor (.tnot (.isi (.slot 1) [.tuple])) (.tnot (.bf .all [.lc (.call f4 [.slot 2, .slot 0]) (.s 2) (.val (.slot 1)) [] [2]]))) [.ret (.cst (.bl false))] [],
    .ret (.cmp .Eq (.bf .len [.dc (.bf .tuple [.bf .sorted [.slot 2]]) (.cst (.bl true)) (.s 2) (.val (.slot 1)) [] [2]]) (.bf .len [.slot 1]))]) := fun m l hl hok hap => by
  refine evF_eq (η' := [some (.int m), some (.tup (l.map enc)), none]) ?_ (outs_nil _)
  have l1 : evE C (.lc (.call f4 [.slot 2, .slot 0]) (.s 2) (.val (.slot 1)) [] [2]) [some (.int m), some (.tup (l.map enc)), none] = .ok (.v (.lst true (l.map fun p => .bl (decide (okP m p)))), [some (.int m), some (.tup (l.map enc)), none]) := by
    rw [lc_map enc (fun p : Pr => .bl (decide (okP m p))) l (η1 := [some (.int m), some (.tup (l.map enc)), none])]
    · simp
    · simp
    · simp [plainSl, hp]
    · simp [sizeL]; omega
    · intro p _
      have := h4.sp p m
      simp [turnL, h4.io, callF, this]
  have l2 : evE C (.dc (.bf .tuple [.bf .sorted [.slot 2]]) (.cst (.bl true)) (.s 2) (.val (.slot 1)) [] [2]) [some (.int m), some (.tup (l.map enc)), none] = .ok (.v (dicT true (l.map fun p => (srt [p.1, p.2], T.bl true))), [some (.int m), some (.tup (l.map enc)), none]) := by
    rw [dc_map enc (fun p : Pr => srt [p.1, p.2]) (fun _ => .bl true) l (η1 := [some (.int m), some (.tup (l.map enc)), none])]
    · simp
    · simp
    · simp [plainSl, hp]
    · simp [sizeL]; omega
    · exact apart_keys hap
    · intro p _
      have hs : bfT .sorted [enc p] = some (.lst true ((srt [p.1, p.2]).map enc)) := f_sortN [p.1, p.2] rfl
      simp [turnD, hs]
      rfl
  have ha : (l.all fun p => decide (okP m p)) = true := List.all_eq_true.mpr fun p h => decide_eq_true (hok p h)
  have hsh : (dicT true (l.map fun p => (srt [p.1, p.2], T.bl true))).sh = true := by
    show fzs _ = true
    rw [List.map_map]
    exact fzs_bls (fun _ => true) l
  have hln : bfT .len [dicT true (l.map fun p => (srt [p.1, p.2], T.bl true))] = some (.int l.length) := by
    show bfT .len [.dic _ _ _] = _
    simp
  simp [isiT, tyOf, kitN, tyIn, fzs_bls, all_bls, l1, ha, l2, hsh, hln]
structure Good (m : Nat) (l : List Pr) : Prop where
  ok : ∀ p ∈ l, okP m p
  ap : Apart l
  ac : Acyc l
  len : l.length ≤ 1000
def SInit (f : FS) : Prop := ∀ (m : Nat) (l : List Pr), 1 ≤ m → m ≤ 10 → Good m l → f [.obj true 0 [] [], .int m, .tup (l.map enc)] = .ok (.non, [some (H true m (srt l))])
theorem r_home_init {f1 f6 f9 : Nat} {e1 e2 e3 : List CS} (hp : C.pin = [0]) (hc : C.cl.contains 0 = true) (h1 : Fn C f1 SBetween) (h6 : Fn C f6 SArr) (h9 : Fn C f9 SRing0) :
    SInit (evF C [true] 3 [.ife (.tnot (.call f1 [.slot 1, .cst (.int 1), .cst (.int 10)])) e1 [], .ife (.tnot (.call f6 [.slot 1, .slot 2])) e2 [], .ife (.cmp .IsNot (.call f9 [.slot 1, .slot 2]) (.cst .non)) e3 [], .asgAt (.slot 0) "many" (.slot 1), .asgAt (.slot 0) "arrows" (.bf .tuple [.bf .sorted [.slot 2]])]) := fun m l hm1 hm2 hg => by
  refine evF_nx (η' := [some (H true m (srt l)), some (.int m), some (.tup (l.map enc))]) ?_ (by rfl)
  have a1 := h1.sp m 1 10
  have a1' : (decide (1 ≤ (m : Int) ∧ (m : Int) ≤ 10)) = true := by simp; omega
  rw [a1'] at a1
  have a6 := h6.sp m l hg.len hg.ok hg.ap
  have a9 := h9.sp m l (.tup (l.map enc)) (SeqP.tup l) (by omega) hg.len (fun p hp => ⟨(hg.ok p hp).1, (hg.ok p hp).2.1⟩) (fun p hp => sw_acyc hg.ac hp)
  have hs : bfT .sorted [.tup (l.map enc)] = some (.lst true ((srt l).map enc)) := f_sortP (α := Nat) (β := Nat) (by decide) l rfl
  have t1 : attT (.obj true 0 [] []) "many" (.int m) = some (.obj true 0 ["many"] [.int m]) := by simp [attT, fpos]
  have t2 : attT (.obj true 0 ["many"] [.int m]) "arrows" (.tup ((srt l).map enc)) = some (H true m (srt l)) := by
    have : fpos ["many"] "arrows" = none := by decide +kernel
    simp [attT, this, H]
  have hc' : 0 ∈ C.cl := by simpa using hc
  simp [h1.io, h6.io, h9.io, callF, a1, a6, a9, hs, hc', t1, t2]
def SEq (f : FS) : Prop := ∀ (m m' : Nat) (l l' : List Pr), f [H false m l, H false m' l'] = .ok (.bl (decide (m = m' ∧ l = l')), [])
theorem r_home_eq (hc : C.cl.contains 0 = true) : SEq (evF C [] 2 [.ret (.and_ (.isi (.slot 1) [.cls 0]) (.cmp .Eq (.tup [.att (.slot 0) "many", .att (.slot 0) "arrows"]) (.tup [.att (.slot 1) "many", .att (.slot 1) "arrows"])))]) := fun m m' l l' => by
  refine evF_eq (η' := [some (H false m l), some (H false m' l')]) ?_ (outs_nil _)
  have hi : isiT C.cl (H false m' l') [.cls 0] = some (.bl true) := by
    simp only [isiT, H, tyOf, tyIn, List.all_cons, List.all_nil, hc]
    rfl
  have he : cmpT .Eq (.tup [.int m, .tup (l.map enc)]) (.tup [.int m', .tup (l'.map enc)]) = some (.bl (decide (m = m' ∧ l = l'))) := by
    have := c_eqE (α := Nat × List Pr) (by decide) (m, l) (m', l')
    simp only [Prod.mk.injEq] at this
    exact this
  simp [hi, att_many hc, att_arrows hc, he]
end
end TV
/-! striking: whoever nobody is ahead of -/
namespace TV
/-- the counts fall, and who falls to nothing is free -/
def relax (f : Nat → Int) (free : List Nat) : List Nat → (Nat → Int) × List Nat
  | [] => (f, free)
  | v :: vs => relax (fun w => if w = v then f v - 1 else f w) (if f v - 1 = 0 then free ++ [v] else free) vs
theorem relax_spec : ∀ (vs : List Nat) (f : Nat → Int) (free : List Nat), (∀ v, (vs.count v : Int) ≤ f v) →
    (∀ w, (relax f free vs).1 w = f w - vs.count w) ∧ ∃ new, (relax f free vs).2 = free ++ new ∧ new.Nodup ∧ ∀ w, w ∈ new ↔ w ∈ vs ∧ f w = vs.count w
  | [], f, free, _ => ⟨fun w => by simp [relax], [], by simp [relax], by simp, by simp⟩
  | v :: vs, f, free, h => by
    let f' : Nat → Int := fun w => if w = v then f v - 1 else f w
    have hf' : ∀ w, (vs.count w : Int) ≤ f' w := fun w => by
      have := h w
      by_cases e : w = v
      · subst e
        simp only [List.count_cons_self, f', if_true] at *; omega
      · have e2 : v ≠ w := Ne.symm e
        simp only [List.count_cons_of_ne e2, f', if_neg e] at *; exact this
    obtain ⟨i1, new, i2, i3, i4⟩ := relax_spec vs f' (if f v - 1 = 0 then free ++ [v] else free) hf'
    have hv := h v
    rw [List.count_cons_self] at hv
    refine ⟨fun w => ?_, (if f v - 1 = 0 then [v] else []) ++ new, ?_, ?_, fun w => ?_⟩
    · show (relax f' _ vs).1 w = _
      rw [i1 w]
      by_cases e : w = v
      · subst e; simp only [List.count_cons_self, f', if_true]; omega
      · rw [List.count_cons_of_ne (Ne.symm e)]; simp only [f', if_neg e]
    · show (relax f' _ vs).2 = _
      rw [i2]
      by_cases e : f v - 1 = 0
      · simp only [if_pos e, List.append_assoc]
      · simp only [if_neg e, List.nil_append]
    · by_cases e : f v - 1 = 0
      · rw [if_pos e]
        refine List.nodup_append.mpr ⟨by simp, i3, fun a ha b hb => ?_⟩
        simp only [List.mem_singleton] at ha
        subst ha
        rintro rfl
        obtain ⟨h1, h2⟩ := (i4 a).mp hb
        have : 0 < vs.count a := List.count_pos_iff.mpr h1
        omega
      · rw [if_neg e]; simpa using i3
    · rw [List.mem_append, i4 w, List.mem_cons]
      by_cases e : w = v
      · subst e
        rw [List.count_cons_self]
        simp only [f', if_true]
        by_cases e2 : f w - 1 = 0
        · simp only [if_pos e2, List.mem_singleton, true_or, true_iff, true_and]; omega
        · simp only [if_neg e2, List.not_mem_nil, false_or, true_or, true_and]
          constructor
          · rintro ⟨_, h2⟩; omega
          · intro h2
            have hp : 0 < vs.count w := by omega
            exact ⟨List.count_pos_iff.mp hp, by omega⟩
      · rw [List.count_cons_of_ne (Ne.symm e)]
        have : w ∉ (if f v - 1 = 0 then [v] else []) := by split <;> simp [e]
        simp only [this, false_or, e, f', if_neg e]
/-- pairs whose first thing is not struck -/
def cnt (l : List Pr) (D : List Nat) (v : Nat) : Nat := l.countP fun p => decide (p.2 = v ∧ p.1 ∉ D)
def succs (l : List Pr) (h : Nat) : List Nat := (l.filter fun p => p.1 = h).map (·.2)
theorem cnt_snoc (l : List Pr) {D : List Nat} {h : Nat} (hD : h ∉ D) (v : Nat) : cnt l D v = cnt l (D ++ [h]) v + (succs l h).count v := by
  unfold cnt succs
  induction l with
  | nil => rfl
  | cons p l ih =>
    rw [List.countP_cons, List.countP_cons, List.filter_cons]
    by_cases e : p.1 = h
    · have h1 : p.1 ∉ D := by rw [e]; exact hD
      have h2 : p.1 ∈ D ++ [h] := by rw [e]; simp
      simp only [e, decide_true, if_true, List.map_cons]
      by_cases e2 : p.2 = v
      · rw [e2, List.count_cons_self]
        have h2' : h ∈ D ++ [h] := by simp
        simp only [hD, h2', not_true, not_false_eq_true, and_true, and_false, decide_true, decide_false, if_true, Bool.false_eq_true, if_false]
        omega
      · rw [List.count_cons_of_ne e2]
        simp only [e2, false_and, decide_false, Bool.false_eq_true, if_false]; omega
    · have : (p.1 ∉ D ++ [h]) ↔ p.1 ∉ D := by simp [e]
      simp only [e, decide_false, Bool.false_eq_true, if_false, this]
      omega
/-- how it stands when D are struck -/
structure KI (m : Nat) (l : List Pr) (f : Nat → Int) (free D : List Nat) : Prop where
  nd : (D ++ free).Nodup
  lt : ∀ v ∈ D ++ free, v < m
  ct : ∀ v, f v = cnt l D v
  zero : ∀ v, v < m → (v ∈ D ++ free ↔ cnt l D v = 0)
  ord : ∀ p ∈ l, p.2 ∈ D → p.1 ∈ D ∧ D.idxOf p.1 < D.idxOf p.2
theorem cnt_zero {l : List Pr} {D : List Nat} {v : Nat} (h : cnt l D v = 0) : ∀ p ∈ l, p.2 = v → p.1 ∈ D := fun p hp e => by
  have := List.countP_eq_zero.mp h p hp
  simp only [decide_eq_true_eq, not_and, Decidable.not_not] at this
  exact this e
theorem KI.step {m : Nat} {l : List Pr} {f : Nat → Int} {free D vs : List Nat} {h : Nat} (k : KI m l f free D) (hl : ∀ p ∈ l, p.2 < m) (hh : h ∈ free) (hv : ∀ v, vs.count v = (succs l h).count v) :
    KI m l (relax f (free.erase h) vs).1 (relax f (free.erase h) vs).2 (D ++ [h]) := by
  have hD : h ∉ D := fun z => (List.nodup_append.mp k.nd).2.2 h z h hh rfl
  have hle : ∀ v, (vs.count v : Int) ≤ f v := fun v => by
    rw [k.ct, hv, cnt_snoc l hD v]; omega
  obtain ⟨r1, new, r2, r3, r4⟩ := relax_spec vs f (free.erase h) hle
  have hnew : ∀ v, v ∈ new ↔ (succs l h).count v > 0 ∧ cnt l (D ++ [h]) v = 0 := fun v => by
    rw [r4 v, k.ct, hv, cnt_snoc l hD v, ← List.count_pos_iff, hv]
    omega
  have hfree : ∀ v, v ∈ free.erase h ↔ v ≠ h ∧ v ∈ free := fun v => (List.nodup_append.mp k.nd).2.1.mem_erase_iff
  have hmem : ∀ v, v ∈ (D ++ [h]) ++ (relax f (free.erase h) vs).2 ↔ v ∈ D ++ free ∨ v ∈ new := fun v => by
    rw [r2]
    simp only [List.mem_append, List.mem_singleton, hfree]
    constructor
    · rintro ((a | rfl) | (⟨_, b⟩ | c))
      · exact .inl (.inl a)
      · exact .inl (.inr hh)
      · exact .inl (.inr b)
      · exact .inr c
    · rintro ((a | b) | c)
      · exact .inl (.inl a)
      · by_cases e : v = h
        · exact .inl (.inr e)
        · exact .inr (.inl ⟨e, b⟩)
      · exact .inr (.inr c)
  have hnn : ∀ v ∈ new, v ∉ D ++ free := fun v hv' hz => by
    obtain ⟨q1, q2⟩ := (hnew v).mp hv'
    have := (k.zero v (k.lt v hz)).mp hz
    rw [cnt_snoc l hD v] at this
    omega
  refine ⟨?_, fun v hv' => ?_, fun v => ?_, fun v hvm => ?_, fun p hp hpD => ?_⟩
  · have hp : ((D ++ [h]) ++ (relax f (free.erase h) vs).2).Perm ((D ++ free) ++ new) := by
      rw [r2, List.append_assoc, List.append_assoc]
      refine List.Perm.append_left D ?_
      rw [← List.append_assoc]
      refine List.Perm.append_right new ?_
      exact (List.perm_cons_erase hh).symm
    rw [hp.nodup_iff]
    exact List.nodup_append.mpr ⟨k.nd, r3, fun a ha b hb e => hnn b hb (e ▸ ha)⟩
  · rcases (hmem v).mp hv' with h1 | h1
    · exact k.lt v h1
    · have := ((hnew v).mp h1).1
      have := List.count_pos_iff.mp this
      unfold succs at this
      obtain ⟨p, hp, rfl⟩ := List.mem_map.mp this
      exact hl p (List.mem_filter.mp hp).1
  · rw [r1 v, k.ct, hv, cnt_snoc l hD v]; omega
  · rw [hmem v, k.zero v hvm, hnew v, cnt_snoc l hD v]
    omega
  · rcases List.mem_append.mp hpD with h1 | h1
    · obtain ⟨q1, q2⟩ := k.ord p hp h1
      refine ⟨by simp [q1], ?_⟩
      rw [List.idxOf_append, List.idxOf_append, if_pos q1, if_pos h1]; exact q2
    · simp only [List.mem_singleton] at h1
      have hz : cnt l D h = 0 := (k.zero h (k.lt h (by simp [hh]))).mp (by simp [hh])
      have q1 := cnt_zero hz p hp h1
      refine ⟨by simp [q1], ?_⟩
      rw [List.idxOf_append, List.idxOf_append, if_pos q1, h1, if_neg hD]
      have := List.idxOf_lt_length_of_mem q1
      simp; omega
theorem nodup_full : ∀ {m : Nat} {l : List Nat}, l.Nodup → (∀ x ∈ l, x < m) → m ≤ l.length → ∀ v, v < m → v ∈ l := fun {m l} hn hl hm v hv => by
  refine Classical.byContradiction fun hc => ?_
  have := nodup_lt_len (m := m) (l := v :: l) (List.nodup_cons.mpr ⟨hc, hn⟩) (fun x hx => by
    rcases List.mem_cons.mp hx with rfl | hx
    · exact hv
    · exact hl x hx)
  simp only [List.length_cons] at this
  omega
/-- all are struck: no ring -/
theorem KI.acyc {m : Nat} {l : List Pr} {f : Nat → Int} {D : List Nat} (k : KI m l f [] D) (hl : ∀ p ∈ l, p.2 < m) (hm : m ≤ D.length) : Acyc l := by
  refine ⟨fun v => D.idxOf v, fun p hp => ?_⟩
  have h1 := k.nd
  rw [List.append_nil] at h1
  have := nodup_full h1 (fun x hx => k.lt x (by simp [hx])) hm p.2 (hl p hp)
  exact (k.ord p hp this).2
/-- no ring: all are struck -/
theorem KI.full {m : Nat} {l : List Pr} {f : Nat → Int} {D : List Nat} (k : KI m l f [] D) (hl : ∀ p ∈ l, p.1 < m) (ha : Acyc l) : D.length = m := by
  obtain ⟨r, hr⟩ := ha
  have h1 := k.nd
  rw [List.append_nil] at h1
  have hle := nodup_lt_len h1 fun x hx => k.lt x (by simp [hx])
  have all : ∀ n v, r v = n → v < m → v ∈ D := by
    intro n
    induction n using Nat.strongRecOn with
    | ind n ih =>
      intro v hn hv
      have : v ∈ D ++ [] := (k.zero v hv).mpr (List.countP_eq_zero.mpr fun p hp => by
        simp only [decide_eq_true_eq, not_and, Decidable.not_not]
        intro e
        exact ih (r p.1) (by have := hr p hp; rw [e] at this; omega) p.1 rfl (hl p hp))
      simpa using this
  have h2 : (List.range m).length ≤ D.length := by
    refine Nat.le_of_not_lt fun hlt => ?_
    have : m ≤ D.length := by
      clear hlt
      -- every thing below m stands in D
      have aux : ∀ (k : Nat) (E : List Nat), E.Nodup → (∀ v, v < k → v ∈ E) → k ≤ E.length := by
        intro k
        induction k with
        | zero => intro E _ _; omega
        | succ k ih =>
          intro E hE hall
          have hk : k ∈ E := hall k (by omega)
          have := ih (E.erase k) (hE.erase k) fun v hv => (hE.mem_erase_iff).mpr ⟨by omega, hall v (by omega)⟩
          rw [List.length_erase_of_mem hk] at this
          have : 0 < E.length := List.length_pos_of_mem hk
          omega
      exact aux m D h1 fun v hv => all (r v) v rfl hv
    rw [List.length_range] at hlt; omega
  rw [List.length_range] at h2
  omega
/-- at the start -/
theorem KI.start (m : Nat) (l : List Pr) : KI m l (fun v => cnt l [] v) ((List.range m).filter fun v => (cnt l [] v : Int) = 0) [] := by
  refine ⟨?_, fun v hv => ?_, fun v => rfl, fun v hv => ?_, fun p hp h => by simp at h⟩
  · rw [List.nil_append]; exact List.nodup_range.filter _
  · rw [List.nil_append] at hv; exact List.mem_range.mp (List.mem_filter.mp hv).1
  · rw [List.nil_append, List.mem_filter, List.mem_range, decide_eq_true_eq]
    constructor
    · rintro ⟨_, h⟩; omega
    · intro h; exact ⟨hv, by omega⟩
end TV
/-! the least order -/
namespace TV
open PySem L2
open Enc (enc)
@[simp] theorem kidsL (o : Bool) (ts : List T) : (T.lst o ts).kids = ts := rfl
/-- a row of counts -/
def fT (m : Nat) (f : Nat → Int) : List T := (List.range m).map fun v => T.int (f v)
@[simp] theorem fT_len (m : Nat) (f : Nat → Int) : (fT m f).length = m := by simp [fT]
theorem fT_get {m v : Nat} (h : v < m) (f : Nat → Int) : (fT m f)[v]? = some (.int (f v)) := by simp [fT, List.getElem?_map, List.getElem?_range h]
theorem fT_set {m v : Nat} (f : Nat → Int) (x : Int) : (fT m f).set v (.int x) = fT m (fun w => if w = v then x else f w) := by
  refine List.ext_getElem? fun w => ?_
  rw [List.getElem?_set]
  by_cases hw : w < m
  · rw [fT_get hw, fT_get hw]
    by_cases e : v = w
    · subst e; simp [hw]
    · simp [e, Ne.symm e]
  · rw [List.getElem?_eq_none (by rw [fT_len]; omega), List.getElem?_eq_none (by rw [fT_len]; omega)]
    split
    · split
      · rename_i h1; rw [fT_len] at h1; omega
      · rfl
    · rfl
@[simp] theorem fzs_fT (m : Nat) (f : Nat → Int) : fzs (fT m f) = true := fzs_of fun t h => by
  obtain ⟨v, _, rfl⟩ := List.mem_map.mp h; simp
theorem fT_zero {m : Nat} (h : m ≤ 1000) : binT .Mult (.lst true [.int 0]) (.int m) = some (.lst true (fT m fun _ => 0)) := by
  simp only [binT]
  rw [if_pos (by simp only [sizeL, List.length_cons, List.length_nil]; omega)]
  congr 2
  rw [Int.toNat_natCast, fT]
  refine List.ext_getElem? fun w => ?_
  rw [show (List.replicate m [T.int 0]).flatten = List.replicate m (T.int 0) by
    clear h
    induction m with
    | zero => rfl
    | succ m ih => simp [List.replicate_succ, ih]]
  by_cases hw : w < m
  · simp [hw]
  · rw [List.getElem?_eq_none (by simp; omega), List.getElem?_eq_none (by simp; omega)]
theorem cnt_snocL (l : List Pr) (p : Pr) (w : Nat) : ((cnt (l ++ [p]) [] w : Nat) : Int) = (if w = p.2 then (cnt l [] p.2 : Int) + 1 else cnt l [] w) := by
  unfold cnt
  rw [List.countP_append]
  by_cases e : w = p.2
  · subst e; simp
  · rw [if_neg e]
    have : ¬ p.2 = w := Ne.symm e
    simp [this]
theorem f_minN (o : Bool) : ∀ {l : List Nat}, l ≠ [] → ∃ h ∈ l, (∀ y ∈ l, h ≤ y) ∧ bfT .min [.lst o (l.map enc)] = some (.int h)
  | [], h => absurd rfl h
  | x :: l, _ => by
    have key : ∀ (l : List Nat) (x : Nat), ∃ h, (h = x ∨ h ∈ l) ∧ h ≤ x ∧ (∀ y ∈ l, h ≤ y) ∧ minT (.int x) (l.map enc) = .int h := by
      intro l
      induction l with
      | nil => intro x; exact ⟨x, .inl rfl, Nat.le_refl _, by simp, rfl⟩
      | cons y l ih =>
        intro x
        have hlt : ltT (.int (y : Int)) (.int (x : Int)) = decide (y < x) := by rw [ltT_int]; simp
        have hstep : minT (.int (x : Int)) ((y :: l).map enc) = minT (.int ((if y < x then y else x : Nat) : Int)) (l.map enc) := by
          show List.foldl _ (if ltT (.int (y : Int)) (.int (x : Int)) then _ else _) _ = _
          rw [hlt]
          by_cases e : y < x <;> simp [e, minT]
        obtain ⟨h, h1, h2, h3, h4⟩ := ih (if y < x then y else x)
        refine ⟨h, ?_, ?_, ?_, by rw [hstep, h4]⟩
        · rcases h1 with h1 | h1
          · split at h1
            · exact .inr (by simp [h1])
            · exact .inl h1
          · exact .inr (by simp [h1])
        · split at h2 <;> omega
        · intro z hz
          rcases List.mem_cons.mp hz with rfl | hz
          · split at h2 <;> omega
          · exact h3 z hz
    obtain ⟨h, h1, h2, h3, h4⟩ := key l x
    refine ⟨h, by rcases h1 with rfl | h1 <;> simp [*], fun y hy => ?_, ?_⟩
    · rcases List.mem_cons.mp hy with rfl | hy
      · exact h2
      · exact h3 y hy
    · have hc : cmpOk ((x :: l).map enc) = true := by
        unfold cmpOk
        simp only [Bool.and_eq_true, List.all_map, List.all_eq_true, Function.comp]
        refine ⟨fun a _ => ?_, fun a _ b _ => Enc.al a b⟩
        rw [data_enc (by decide), Enc.nn]; exact ⟨rfl, rfl⟩
      simp only [bfT, seq_lst, Option.bind_some, List.map_cons]
      rw [show (enc x : T) :: l.map enc = (x :: l).map enc from rfl, if_pos hc]
      exact congrArg some h4
theorem rm_nat {l : List Nat} {h : Nat} (hl : h ∈ l) : bmT .remove (.lst true (l.map enc)) [.int h] = some (.non, .lst true ((l.erase h).map enc)) := by
  have key : ∀ l : List Nat, h ∈ l → ∃ j, (l.map enc).findIdx? (fun y => eqT y (.int h)) = some j ∧ (l.map enc).eraseIdx j = (l.erase h).map enc := by
    intro l
    induction l with
    | nil => intro z; simp at z
    | cons x l ih =>
      intro z
      have e : eqT (enc x) (.int h) = decide (x = h) := eqT_enc x h
      by_cases hx : x = h
      · subst hx
        exact ⟨0, by simp [List.findIdx?_cons, eqT_int], by simp⟩
      · obtain ⟨j, h1, h2⟩ := ih (by simpa [Ne.symm hx] using z)
        refine ⟨j + 1, ?_, ?_⟩
        · rw [List.map_cons, List.findIdx?_cons, e]
          simp [hx, h1]
        · rw [List.erase_cons_tail (by simpa using hx)]
          simp [h2]
  obtain ⟨j, h1, h2⟩ := key l hl
  have hd : (T.lst true (l.map enc)).data = true := data_lst (by decide) true l
  simp only [bmT, hd, dataI, Bool.and_self, if_true, h1, Option.map_some, h2]
theorem relax_snoc : ∀ (vs : List Nat) (f : Nat → Int) (free : List Nat) (v : Nat), relax f free (vs ++ [v]) = (fun w => if w = v then (relax f free vs).1 v - 1 else (relax f free vs).1 w, if (relax f free vs).1 v - 1 = 0 then (relax f free vs).2 ++ [v] else (relax f free vs).2)
  | [], f, free, v => rfl
  | u :: vs, f, free, v => by
    rw [List.cons_append]
    show relax _ _ (vs ++ [v]) = _
    rw [relax_snoc vs]
    rfl
section
variable {C : Ctx}
/-- one count falls -/
theorem ord_turn {m v : Nat} {f : Nat → Int} {free : List Nat} {s0 s1 s3 s4 s5 s7 s8 s10 : Option T} (hv : v < m) (hl : free.length ≤ 100000) :
    evB C [.augIx (.slot 2) (.slot 9) .Sub (.cst (.int 1)), .ife (.cmp .Eq (.idx (.slot 2) (.slot 9)) (.cst (.int 0))) [.expr (.bm .append (.slot 6) [.slot 9])] []] [s0, s1, some (.lst true (fT m f)), s3, s4, s5, some (.lst true (free.map enc)), s7, s8, some (.int v), s10] =
      .nx [s0, s1, some (.lst true (fT m (relax f free [v]).1)), s3, s4, s5, some (.lst true ((relax f free [v]).2.map enc)), s7, s8, some (.int v), s10] := by
  have hc : ∀ f, childOf (.lst true (fT m f)) (.int v) = some v := fun f => child_lst (by rw [fT_len]; exact hv)
  have hs : ∀ x, setT (.lst true (fT m f)) (.int v) (.int x) = some (.lst true (fT m (fun w => if w = v then x else f w))) := fun x => by
    rw [set_lst (by rw [fT_len]; exact hv), fT_set]
  have hap : bmT .append (.lst true (free.map enc)) [.int v] = some (.non, .lst true ((free ++ [v]).map enc)) := by
    simp only [bmT]
    rw [if_pos (by rw [List.length_map]; simp only [sizeL]; omega)]
    simp
  have hr1 : (relax f free [v]).1 = fun w => if w = v then f v - 1 else f w := rfl
  have hr2 : (relax f free [v]).2 = if f v - 1 = 0 then free ++ [v] else free := rfl
  have hck : ∀ s2, chkB .append (.pl 6 []) [s0, s1, s2, s3, s4, s5, some (.lst true (free.map enc)), s7, s8, some (.int v), s10] = true := fun _ => rfl
  rw [hr1, hr2]
  by_cases e : f v - 1 = 0
  · simp [hc, hs, fT_get hv, idxE, e, evLc, hck, bmGo, bmW, hap]
  · simp [hc, hs, fT_get hv, idxE, e]
def ordBody : List CS := [.asg false (.s 8) (.bf .min [.slot 6]), .expr (.bm .remove (.slot 6) [.slot 8]), .expr (.bm .append (.slot 7) [.slot 8]),
   .for_ (.s 9) (.val (.idx (.slot 3) (.slot 8))) [.augIx (.slot 2) (.slot 9) .Sub (.cst (.int 1)), .ife (.cmp .Eq (.idx (.slot 2) (.slot 9)) (.cst (.int 0))) [.expr (.bm .append (.slot 6) [.slot 9])] []]]
def oSt (m : Nat) (t : T) (rows : List (List Nat)) (f : Nat → Int) (free D : List Nat) (s4 s5 s8 s9 : Option T) : Env := [some (.int m), some t, some (.lst true (fT m f)), some (rowsF rows), s4, s5, some (.lst true (free.map enc)), some (.lst true (D.map enc)), s8, s9, none]
theorem relax_len : ∀ (vs : List Nat) (f : Nat → Int) (free : List Nat), (relax f free vs).2.length ≤ free.length + vs.length
  | [], f, free => by simp [relax]
  | v :: vs, f, free => by
    show (relax _ _ vs).2.length ≤ _
    have := relax_len vs (fun w => if w = v then f v - 1 else f w) (if f v - 1 = 0 then free ++ [v] else free)
    simp only [List.length_cons]
    split at this
    · rename_i e; simp only [e, if_true, List.length_append, List.length_singleton] at *; omega
    · rename_i e; simp only [e, if_false] at *; omega
theorem ord_body (hp : C.pin = []) {m : Nat} {t : T} {l : List Pr} {f : Nat → Int} {free D : List Nat} {s4 s5 s8 s9 : Option T} (hm : m ≤ 1000) (hl : l.length ≤ 1000) (hb : ∀ p ∈ l, p.1 < m ∧ p.2 < m) (k : KI m l f free D) (hne : free ≠ []) :
    ∃ h f' free' s8' s9', h ∈ free ∧ (∀ y ∈ free, h ≤ y) ∧ f' = (relax f (free.erase h) ((rowsOf m (srt l)).getD h [])).1 ∧ free' = (relax f (free.erase h) ((rowsOf m (srt l)).getD h [])).2 ∧ KI m l f' free' (D ++ [h]) ∧
      evB C ordBody (oSt m t (rowsOf m (srt l)) f free D s4 s5 s8 s9) = .nx (oSt m t (rowsOf m (srt l)) f' free' (D ++ [h]) s4 s5 s8' s9') := by
  obtain ⟨h, hh, hmin, hbf⟩ := f_minN true hne
  have hhm : h < m := k.lt h (by simp [hh])
  let vs := ((srt l).filter fun p => p.1 = h).map (·.2)
  have hr : (rowsOf m (srt l)).getD h [] = vs := by rw [List.getD_eq_getElem?_getD, rowsOf_get hhm]; rfl
  have hvs : ∀ v ∈ vs, v < m := fun v hv => by
    obtain ⟨p, hp', rfl⟩ := List.mem_map.mp hv
    exact (hb p (mem_srt.mp (List.mem_filter.mp hp').1)).2
  have hcount : ∀ v, vs.count v = (succs l h).count v := fun v => by
    refine List.Perm.count_eq ?_ v
    exact ((srt_perm l).filter _).map _
  have hvl : vs.length ≤ 1000 := by
    have := filter_len_le (srt l) h
    rw [srt_len] at this
    exact Nat.le_trans this hl
  have hfl : free.length ≤ m := by
    have := nodup_lt_len (List.nodup_append.mp k.nd).2.1 fun x hx => k.lt x (by simp [hx])
    exact this
  have hDl : D.length ≤ m := nodup_lt_len (List.nodup_append.mp k.nd).1 fun x hx => k.lt x (by simp [hx])
  have hel : (free.erase h).length ≤ m := Nat.le_trans (List.length_erase_le) hfl
  have hrow : childOf (rowsF (rowsOf m (srt l))) (.int h) = some h := child_lst (by simpa [rowsOf_len] using hhm)
  have hrs : (rowsF (rowsOf m (srt l))).sh = true := fzs_rowF _
  have hrf : (rowsF (rowsOf m (srt l))).fl = false := rfl
  have hrk : (kidsT (rowsF (rowsOf m (srt l))))[h]? = some (rowF vs) := by
    show ((rowsOf m (srt l)).map rowF)[h]? = _
    rw [List.getElem?_map, rowsOf_get hhm]; rfl
  have hfr : ∀ r, (rowF r).frz = rowF r := fun r => by simp [rowF]
  have hsq : ∀ r, seqOf (rowF r) = some (r.map enc) := fun r => rfl
  have hap : bmT .append (.lst true (D.map enc)) [.int h] = some (.non, .lst true ((D ++ [h]).map enc)) := by
    simp only [bmT]
    rw [if_pos (by rw [List.length_map]; simp only [sizeL]; omega)]
    simp
  obtain ⟨η', h2, s9', i2⟩ := for_run (C := C) (tg := .s 9) (it := .val (.idx (.slot 3) (.slot 8))) (b := [.augIx (.slot 2) (.slot 9) .Sub (.cst (.int 1)), .ife (.cmp .Eq (.idx (.slot 2) (.slot 9)) (.cst (.int 0))) [.expr (.bm .append (.slot 6) [.slot 9])] []])
    (η := oSt m t (rowsOf m (srt l)) f (free.erase h) (D ++ [h]) s4 s5 (some (.int h)) s9) (η1 := oSt m t (rowsOf m (srt l)) f (free.erase h) (D ++ [h]) s4 s5 (some (.int h)) s9) enc vs (by
      simp [oSt, hrf, idxE, hrs, hrow, hrk, hfr, hsq, vs]) (by simp [hp])
    (fun i η => ∃ s9', η = oSt m t (rowsOf m (srt l)) (relax f (free.erase h) (vs.take i)).1 (relax f (free.erase h) (vs.take i)).2 (D ++ [h]) s4 s5 (some (.int h)) s9') ⟨s9, by simp [relax]⟩ (by
      rintro i v η hi ⟨s, rfl⟩
      have hv : v < m := hvs v (List.mem_of_getElem? hi)
      have hle := relax_len (vs.take i) f (free.erase h)
      have htl : (vs.take i).length ≤ 1000 := by rw [List.length_take]; omega
      refine ⟨_, _, ?_, .inl (ord_turn (C := C) (s0 := some (.int m)) (s1 := some t) (s3 := some (rowsF (rowsOf m (srt l)))) (s4 := s4) (s5 := s5) (s7 := some (.lst true ((D ++ [h]).map enc))) (s8 := some (.int h)) (s10 := none) (f := (relax f (free.erase h) (vs.take i)).1) (free := (relax f (free.erase h) (vs.take i)).2) hv (by omega)), some (.int v), ?_⟩
      · simp [oSt]
      · rw [List.take_add_one, hi, Option.toList_some, relax_snoc]; rfl)
  rw [List.take_of_length_le (Nat.le_refl _)] at i2
  subst i2
  refine ⟨h, _, _, some (.int h), s9', hh, hmin, rfl, rfl, ?_, ?_⟩
  · rw [hr]
    exact k.step (fun p hp => (hb p hp).2) hh hcount
  · rw [hr]
    have h2' : evS C (.for_ (.s 9) (.val (.idx (.slot 3) (.slot 8))) [.augIx (.slot 2) (.slot 9) .Sub (.cst (.int 1)), .ife (.cmp .Eq (.idx (.slot 2) (.slot 9)) (.cst (.int 0))) [.expr (.bm .append (.slot 6) [.slot 9])] []])
      [some (.int m), some t, some (.lst true (fT m f)), some (rowsF (rowsOf m (srt l))), s4, s5, some (.lst true ((free.erase h).map enc)), some (.lst true ((D ++ [h]).map enc)), some (.int h), s9, none] = .nx (oSt m t (rowsOf m (srt l)) (relax f (free.erase h) vs).1 (relax f (free.erase h) vs).2 (D ++ [h]) s4 s5 (some (.int h)) s9') := h2
    have hck : ∀ η : Env, η[6]? = some (some (.lst true (free.map enc))) → chkB .remove (.pl 6 []) η = true := fun η h => by simp only [chkB, kind_pl, get_nil, h, fl_lst, if_true]
    have hck2 : ∀ η : Env, η[7]? = some (some (.lst true (D.map enc))) → chkB .append (.pl 7 []) η = true := fun η h => by simp only [chkB, kind_pl, get_nil, h, fl_lst, if_true]
    simp only [List.map_append, List.map_cons, List.map_nil, enc_nat] at hap h2'
    simp [ordBody, oSt, hp, hbf, evLc, hck, hck2, bmGo, bmW, rm_nat hh, hap]
    rw [h2']
    simp [oSt, vs]
end
end TV
/-! the least order: the def; standings -/
namespace TV
open PySem L2
open Enc (enc)
section
variable {C : Ctx}
def SOrd (f : FS) : Prop := ∀ (m : Nat) (l : List Pr) (t : T), SeqP t l → m ≤ 1000 → l.length ≤ 1000 → (∀ p ∈ l, p.1 < m ∧ p.2 < m) → ∃ r : Option (List Nat), f [.int m, t] = .ok (wayT r, []) ∧ (r.isSome = true ↔ Acyc l)
theorem r_first_order {f7 : Nat} (hp : C.pin = []) (h7 : Fn C f7 SNext) : SOrd (evF C [] 11 [.asg false (.s 2) (.bin .Mult (.lst [.cst (.int 0)]) (.slot 0)), .asg false (.s 3) (.call f7 [.slot 0, .slot 1]), .for_ (.t [.s 4, .s 5]) (.val (.slot 1)) [.augIx (.slot 2) (.slot 5) .Add (.cst (.int 1))],
    .asg false (.s 6) (.lc (.slot 10) (.s 10) (.rng [.slot 0]) [.cmp .Eq (.idx (.slot 2) (.slot 10)) (.cst (.int 0))] [10]), .asg false (.s 7) (.lst []), .whl (.cmp .Gt (.bf .len [.slot 6]) (.cst (.int 0))) ordBody, .ret (.ife (.cmp .Eq (.bf .len [.slot 7]) (.slot 0)) (.bf .tuple [.slot 7]) (.cst .non))]) := fun m l t ht hm hl hb => by
  obtain ⟨t1, t2, t3, t4⟩ := ht
  have hc := h7.sp m l t ⟨t1, t2, t3, t4⟩ hm hl fun p hp => (hb p hp).1
  have hrf : ∀ r, (rowsF r).fl = false := fun _ => rfl
  -- the counts
  obtain ⟨η1, h2, a4, a5, e1⟩ := for_run (C := C) (tg := .t [.s 4, .s 5]) (it := .val (.slot 1)) (b := [.augIx (.slot 2) (.slot 5) .Add (.cst (.int 1))])
    (η := [some (.int m), some t, some (.lst true (fT m fun _ => 0)), some (rowsF (rowsOf m (srt l))), none, none, none, none, none, none, none]) (η1 := [some (.int m), some t, some (.lst true (fT m fun _ => 0)), some (rowsF (rowsOf m (srt l))), none, none, none, none, none, none, none]) enc l (by simp [t1, t2, t4]) (by simp [hp])
    (fun i η => ∃ a4 a5, η = [some (.int m), some t, some (.lst true (fT m fun v => cnt (l.take i) [] v)), some (rowsF (rowsOf m (srt l))), a4, a5, none, none, none, none, none]) ⟨none, none, by simp [cnt]⟩ (by
      rintro i p η hi ⟨a4, a5, rfl⟩
      have hpm := (hb p (List.mem_of_getElem? hi)).2
      have hch : ∀ f, childOf (.lst true (fT m f)) (.int p.2) = some p.2 := fun f => child_lst (by rw [fT_len]; exact hpm)
      have hs : ∀ f x, setT (.lst true (fT m f)) (.int p.2) (.int x) = some (.lst true (fT m (fun w => if w = p.2 then x else f w))) := fun f x => by
        rw [set_lst (by rw [fT_len]; exact hpm), fT_set]
      refine ⟨[some (.int m), some t, some (.lst true (fT m fun v => cnt (l.take i) [] v)), some (rowsF (rowsOf m (srt l))), some (.int p.1), some (.int p.2), none, none, none, none, none],
        [some (.int m), some t, some (.lst true (fT m fun v => cnt (l.take (i + 1)) [] v)), some (rowsF (rowsOf m (srt l))), some (.int p.1), some (.int p.2), none, none, none, none, none], by simp, .inl ?_, _, _, rfl⟩
      have e : (fun v => ((cnt (l.take (i + 1)) [] v : Nat) : Int)) = fun w => if w = p.2 then (cnt (l.take i) [] p.2 : Int) + 1 else cnt (l.take i) [] w := by
        funext w
        rw [List.take_add_one, hi, Option.toList_some, cnt_snocL]
      rw [e]
      simp [hch, hs, fT_get hpm])
  rw [List.take_of_length_le (Nat.le_refl _)] at e1
  subst e1
  have k0 := KI.start m l
  obtain ⟨F0, hF0⟩ : ∃ F0 : Nat → Int, F0 = fun v => (cnt l [] v : Int) := ⟨_, rfl⟩
  obtain ⟨fr0, hfr0⟩ : ∃ fr0 : List Nat, fr0 = (List.range m).filter fun v => decide ((cnt l [] v : Int) = 0) := ⟨_, rfl⟩
  rw [← hF0] at h2 k0
  rw [← hfr0] at k0
  have l6 : evE C (.lc (.slot 10) (.s 10) (.rng [.slot 0]) [.cmp .Eq (.idx (.slot 2) (.slot 10)) (.cst (.int 0))] [10]) [some (.int m), some t, some (.lst true (fT m F0)), some (rowsF (rowsOf m (srt l))), a4, a5, none, none, none, none, none] =
      .ok (.v (.lst true (fr0.map enc)), [some (.int m), some t, some (.lst true (fT m F0)), some (rowsF (rowsOf m (srt l))), a4, a5, none, none, none, none, none]) := by
    rw [lc_filter enc enc (fun v => decide ((cnt l [] v : Int) = 0)) (List.range m) (η1 := [some (.int m), some t, some (.lst true (fT m F0)), some (rowsF (rowsOf m (srt l))), a4, a5, none, none, none, none, none])]
    · rw [← hfr0]; simp
    · exact it_rng1 (o := .v (.int m)) (by simp) (by simp) (by omega)
    · simp [plainSl, hp]
    · simp [sizeL]; omega
    · intro v hv
      have hvm := List.mem_range.mp hv
      have hch : ∀ f, childOf (.lst true (fT m f)) (.int v) = some v := fun f => child_lst (by rw [fT_len]; exact hvm)
      by_cases e : cnt l [] v = 0 <;> simp [turnL, idxE, hch, fT_get hvm, hF0, e]
  obtain ⟨η', h3, f, D, s8, s9, k, rfl⟩ := whl_run (C := C) (t := .cmp .Gt (.bf .len [.slot 6]) (.cst (.int 0))) (b := ordBody) (η := oSt m t (rowsOf m (srt l)) F0 fr0 [] a4 a5 none none)
    (fun η => ∃ f free D s8 s9, η = oSt m t (rowsOf m (srt l)) f free D a4 a5 s8 s9 ∧ KI m l f free D)
    (fun η => ∃ f D s8 s9, KI m l f [] D ∧ η = oSt m t (rowsOf m (srt l)) f [] D a4 a5 s8 s9)
    (fun (η : Env) => match η[7]? with | some (some (T.lst _ ts)) => 2000 - ts.length | _ => 0)
    ⟨F0, fr0, [], none, none, rfl, k0⟩ (by simp [oSt])
    (by
      rintro η ⟨f, free, D, s8, s9, rfl, k⟩
      refine ⟨.v (.bl (decide (0 < free.length))), decide (0 < free.length), oSt m t (rowsOf m (srt l)) f free D a4 a5 s8 s9, by simp [oSt], rfl, fun hk => ?_, fun hk => ?_⟩
      · simp only [decide_eq_true_eq] at hk
        obtain ⟨h, f', free', s8', s9', _, _, _, _, k', hbd⟩ := ord_body (C := C) hp (t := t) (s4 := a4) (s5 := a5) (s8 := s8) (s9 := s9) hm hl hb k (by intro e; subst e; simp at hk)
        refine ⟨_, .inl hbd, ⟨f', free', D ++ [h], s8', s9', rfl, k'⟩, ?_⟩
        have hDl : (D ++ [h]).length ≤ m := nodup_lt_len (List.nodup_append.mp k'.nd).1 fun x hx => k'.lt x (by simp only [List.mem_append] at hx ⊢; exact .inl hx)
        simp only [oSt, List.getElem?_cons_succ, List.getElem?_cons_zero, List.length_map, List.length_append, List.length_singleton] at hDl ⊢
        omega
      · simp only [decide_eq_false_iff_not] at hk
        have : free = [] := List.length_eq_zero_iff.mp (by omega)
        subst this
        exact ⟨f, D, s8, s9, k, rfl⟩)
  refine ⟨if D.length = m then some D else none, ?_, ?_⟩
  · refine evF_eq (η' := oSt m t (rowsOf m (srt l)) f [] D a4 a5 s8 s9) ?_ (outs_nil _)
    have h3' : evS C (.whl (.cmp .Gt (.bf .len [.slot 6]) (.cst (.int 0))) ordBody) [some (.int m), some t, some (.lst true (fT m F0)), some (rowsF (rowsOf m (srt l))), a4, a5, some (.lst true (fr0.map enc)), some (.lst true []), none, none, none] = .nx (oSt m t (rowsOf m (srt l)) f [] D a4 a5 s8 s9) := h3
    simp [h7.io, callF, hc, hp, t2, t4, fT_zero hm]
    rw [h2]
    simp [l6]
    rw [h3']
    by_cases e : D.length = m
    · simp [oSt, e, wayT]
    · have e' : ¬ (D.length : Int) = (m : Int) := by omega
      simp [oSt, e, e', wayT]
  · constructor
    · intro h
      refine k.acyc (fun p hp => (hb p hp).2) ?_
      split at h
      · omega
      · simp at h
    · intro h
      rw [if_pos (k.full (fun p hp => (hb p hp).1) h)]
      rfl
/-! ### standings -/
/-- a lot of these arrows -/
structure Lot (as l : List Pr) : Prop where
  sub : ∀ p ∈ l, p ∈ as
  asc : l.Pairwise fun a b => Enc.lt a b = true
theorem Lot.nd {as l : List Pr} (h : Lot as l) : l.Nodup := h.asc.imp fun {a b} e z => by subst z; rw [Enc.irr] at e; cases e
/-- arrows of a home: told ascending -/
structure Arr (m : Nat) (as : List Pr) : Prop where
  ok : ∀ p ∈ as, okP m p
  asc : as.Pairwise fun a b => Enc.lt a b = true
  ap : Apart as
  len : as.length ≤ 1000
theorem lot_len {as l : List Pr} (h : Lot as l) : l.length ≤ as.length := by
  have aux : ∀ (l as : List Pr), l.Nodup → (∀ p ∈ l, p ∈ as) → l.length ≤ as.length := by
    intro l
    induction l with
    | nil => intro as _ _; simp
    | cons p l ih =>
      intro as hn hs
      rw [List.nodup_cons] at hn
      have hp : p ∈ as := hs p (by simp)
      have := ih (as.erase p) hn.2 fun q hq => (List.mem_erase_of_ne (by rintro rfl; exact hn.1 hq)).mpr (hs q (by simp [hq]))
      rw [List.length_erase_of_mem hp] at this
      have : 0 < as.length := List.length_pos_of_mem hp
      simp only [List.length_cons]; omega
  exact aux l as h.nd h.sub
theorem isLotB_of {m : Nat} {as l : List Pr} (ha : Arr m as) (h : Lot as l) : isLotB m as l = true := by
  unfold isLotB
  rw [Bool.and_eq_true, Bool.and_eq_true]
  exact ⟨List.all_eq_true.mpr fun p hp => decide_eq_true (ha.ok p (h.sub p hp)), List.all_eq_true.mpr fun p hp => decide_eq_true (h.sub p hp), isAsc_of h.asc⟩
theorem mem_ledP {as l : List Pr} {q : Pr} (h : q ∈ ledP as l) : ∃ p ∈ as, q = if p ∈ l then (p.2, p.1) else p := by
  unfold ledP at h
  obtain ⟨p, hp, e⟩ := List.mem_map.mp (mem_srt.mp h)
  exact ⟨p, hp, e.symm⟩
theorem ledP_bound {m : Nat} {as l : List Pr} (ha : ∀ p ∈ as, okP m p) : ∀ p ∈ ledP as l, p.1 < m ∧ p.2 < m := fun q hq => by
  obtain ⟨p, hp, rfl⟩ := mem_ledP hq
  obtain ⟨h1, h2, _⟩ := ha p hp
  split <;> exact ⟨by assumption, by assumption⟩
theorem ledP_len (as l : List Pr) : (ledP as l).length = as.length := by unfold ledP; rw [srt_len, List.length_map]
def SNoRingC (f : FS) : Prop := ∀ (m : Nat) (as l : List Pr), m ≤ 1000 → Arr m as → Lot as l → Acyc (ledP as l) → f [H false m as, .tup (l.map enc)] = .ok (.bl true, [])
end
end TV
/-! standings: the defs -/
namespace TV
open PySem L2
open Enc (enc)
structure Stand (as l : List Pr) : Prop where
  lot : Lot as l
  ac : Acyc (ledP as l)
def turnP (l : List Pr) (p : Pr) : Pr := if p ∈ l then (p.2, p.1) else p
theorem ledP_eq (as l : List Pr) : ledP as l = srt (as.map (turnP l)) := rfl
theorem ledP_ok {m : Nat} {as l : List Pr} (ha : ∀ p ∈ as, okP m p) : ∀ p ∈ ledP as l, okP m p := fun q hq => by
  obtain ⟨p, hp, rfl⟩ := mem_ledP hq
  obtain ⟨h1, h2, h3⟩ := ha p hp
  split
  · exact ⟨h2, h1, Ne.symm h3⟩
  · exact ⟨h1, h2, h3⟩
theorem turn_apart {l : List Pr} {p q : Pr} (h : p ≠ q ∧ p ≠ (q.2, q.1)) : turnP l p ≠ turnP l q ∧ turnP l p ≠ ((turnP l q).2, (turnP l q).1) := by
  obtain ⟨a, b⟩ := p; obtain ⟨c, d⟩ := q
  obtain ⟨h1, h2⟩ := h
  simp only [ne_eq, Prod.mk.injEq] at h1 h2
  unfold turnP
  split <;> split <;> simp only [ne_eq, Prod.mk.injEq] <;> omega
theorem ledP_apart {as l : List Pr} (h : Apart as) : Apart (ledP as l) := by
  have h1 : Apart (as.map (turnP l)) := by
    unfold Apart at *
    rw [List.pairwise_map]
    exact h.imp fun {p q} e => turn_apart e
  exact h1.perm (srt_perm _).symm fun {p q} ⟨e1, e2⟩ => ⟨Ne.symm e1, fun z => e2 (by rw [z])⟩
theorem ledP_nodup {as l : List Pr} (h : Apart as) : (ledP as l).Nodup := (ledP_apart h).imp fun {p q} e => e.1
theorem strict_of {l : List Pr} (h : l.Pairwise fun a b => leE a b = true) (hn : l.Nodup) : l.Pairwise fun a b => Enc.lt a b = true := by
  refine List.Pairwise.imp₂ (fun {a b} h1 h2 => ?_) h hn
  cases e : Enc.lt a b with
  | true => rfl
  | false =>
    unfold leE at h1
    exact absurd (Enc.co a b e (by simpa using h1)) h2
theorem ledP_asc {as l : List Pr} (h : Apart as) : (ledP as l).Pairwise fun a b => Enc.lt a b = true := strict_of (srt_sorted _) (ledP_nodup h)
theorem ledP_arr {m : Nat} {as l : List Pr} (h : Arr m as) : Arr m (ledP as l) := ⟨ledP_ok h.ok, ledP_asc h.ap, ledP_apart h.ap, by rw [ledP_len]; exact h.len⟩
theorem Arr.good {m : Nat} {as : List Pr} (h : Arr m as) (ha : Acyc as) : Good m as := ⟨h.ok, h.ap, ha, h.len⟩
section
variable {C : Ctx}
def SNoRing (f : FS) : Prop := ∀ (m : Nat) (as l : List Pr), m ≤ 1000 → Arr m as → Stand as l → f [H false m as, .tup (l.map enc)] = .ok (.bl true, [])
theorem r_makes_no_ring {f12 f15 : Nat} (hc : C.cl.contains 0 = true) (h12 : Fn C f12 SOrd) (h15 : Fn C f15 SLed) : SNoRing (evF C [] 2 [.ret (.cmp .IsNot (.call f12 [.att (.slot 0) "many", .call f15 [.slot 0, .slot 1]]) (.cst .non))]) := fun m as l hm ha hs => by
  refine evF_eq (η' := [some (H false m as), some (.tup (l.map enc))]) ?_ (outs_nil _)
  have h1 := h15.sp m as l (Nat.le_trans (lot_len hs.lot) ha.len) ha.len hs.lot.nd
  obtain ⟨r, h2, h3⟩ := h12.sp m (ledP as l) (.tup ((ledP as l).map enc)) (SeqP.tup _) hm (by rw [ledP_len]; exact ha.len) (ledP_bound ha.ok)
  have h4 := h3.mpr hs.ac
  obtain ⟨D, rfl⟩ := Option.isSome_iff_exists.mp h4
  simp [att_many hc, h15.io, h12.io, callF, h1, h2, wayT]
def SStd (f : FS) : Prop := ∀ (m : Nat) (as l : List Pr), m ≤ 1000 → Arr m as → Stand as l → f [H false m as, .tup (l.map enc)] = .ok (.bl true, [])
theorem r_is_standing {f13 f16 : Nat} (h13 : Fn C f13 SLot) (h16 : Fn C f16 SNoRing) : SStd (evF C [] 2 [.ret (.and_ (.call f13 [.slot 0, .slot 1]) (.call f16 [.slot 0, .slot 1]))]) := fun m as l hm ha hs => by
  refine evF_eq (η' := [some (H false m as), some (.tup (l.map enc))]) ?_ (outs_nil _)
  have h1 := h13.sp m as l (Nat.le_trans (lot_len hs.lot) ha.len)
  rw [isLotB_of ha hs.lot] at h1
  have h2 := h16.sp m as l hm ha hs
  simp [h13.io, h16.io, callF, h1, h2]
def SChk (f : FS) : Prop := ∀ (m : Nat) (as l : List Pr), m ≤ 1000 → Arr m as → Stand as l → f [H false m as, .tup (l.map enc)] = .ok (.non, [])
theorem r_check_standing {f17 : Nat} {e : List CS} (h17 : Fn C f17 SStd) : SChk (evF C [] 2 [.ife (.tnot (.call f17 [.slot 0, .slot 1])) e []]) := fun m as l hm ha hs => by
  refine evF_nx (η' := [some (H false m as), some (.tup (l.map enc))]) ?_ (outs_nil _)
  have h1 := h17.sp m as l hm ha hs
  simp [h17.io, callF, h1]
def SChkL (f : FS) : Prop := ∀ (m : Nat) (as l : List Pr), Arr m as → Lot as l → f [H false m as, .tup (l.map enc)] = .ok (.non, [])
theorem r_check_lot {f13 : Nat} {e : List CS} (h13 : Fn C f13 SLot) : SChkL (evF C [] 2 [.ife (.tnot (.call f13 [.slot 0, .slot 1])) e []]) := fun m as l ha hs => by
  refine evF_nx (η' := [some (H false m as), some (.tup (l.map enc))]) ?_ (outs_nil _)
  have h1 := h13.sp m as l (Nat.le_trans (lot_len hs) ha.len)
  rw [isLotB_of ha hs] at h1
  simp [h13.io, callF, h1]
def SLed2 (f : FS) : Prop := ∀ (m : Nat) (as l : List Pr), Arr m as → Lot as l → f [H false m as, .tup (l.map enc)] = .ok (.tup ((ledP as l).map enc), [])
theorem r_led {f14 f15 : Nat} (h14 : Fn C f14 SChkL) (h15 : Fn C f15 SLed) : SLed2 (evF C [] 2 [.expr (.call f14 [.slot 0, .slot 1]), .ret (.call f15 [.slot 0, .slot 1])]) := fun m as l ha hs => by
  refine evF_eq (η' := [some (H false m as), some (.tup (l.map enc))]) ?_ (outs_nil _)
  have h1 := h14.sp m as l ha hs
  have h2 := h15.sp m as l (Nat.le_trans (lot_len hs) ha.len) ha.len hs.nd
  simp [h14.io, h15.io, callF, h1, h2]
/-- the least order, whatever it is -/
def SOrdG (g : Nat → List Pr → Option (List Nat)) (f : FS) : Prop := ∀ (m : Nat) (l : List Pr), m ≤ 1000 → l.length ≤ 1000 → (∀ p ∈ l, p.1 < m ∧ p.2 < m) → f [.int m, .tup (l.map enc)] = .ok (wayT (g m l), []) ∧ ((g m l).isSome = true ↔ Acyc l)
theorem ordG {f : FS} (h : SOrd f) : ∃ g, SOrdG g f := by
  refine ⟨fun m l => open Classical in if hh : m ≤ 1000 ∧ l.length ≤ 1000 ∧ (∀ p ∈ l, p.1 < m ∧ p.2 < m) then Classical.choose (h m l (.tup (l.map enc)) (SeqP.tup l) hh.1 hh.2.1 hh.2.2) else none, fun m l h1 h2 h3 => ?_⟩
  have hh : m ≤ 1000 ∧ l.length ≤ 1000 ∧ (∀ p ∈ l, p.1 < m ∧ p.2 < m) := ⟨h1, h2, h3⟩
  simp only [dif_pos hh]
  exact Classical.choose_spec (h m l (.tup (l.map enc)) (SeqP.tup l) hh.1 hh.2.1 hh.2.2)
def SOrder (g : Nat → List Pr → Option (List Nat)) (f : FS) : Prop := ∀ (m : Nat) (as l : List Pr), m ≤ 1000 → Arr m as → Stand as l → f [H false m as, .tup (l.map enc)] = .ok (wayT (g m (ledP as l)), [])
theorem r_order {f12 f15 f18 : Nat} {g : Nat → List Pr → Option (List Nat)} (hc : C.cl.contains 0 = true) (h12 : Fn C f12 (SOrdG g)) (h15 : Fn C f15 SLed) (h18 : Fn C f18 SChk) : SOrder g (evF C [] 2 [.expr (.call f18 [.slot 0, .slot 1]), .ret (.call f12 [.att (.slot 0) "many", .call f15 [.slot 0, .slot 1]])]) := fun m as l hm ha hs => by
  refine evF_eq (η' := [some (H false m as), some (.tup (l.map enc))]) ?_ (outs_nil _)
  have h1 := h15.sp m as l (Nat.le_trans (lot_len hs.lot) ha.len) ha.len hs.lot.nd
  obtain ⟨h2, _⟩ := h12.sp m (ledP as l) hm (by rw [ledP_len]; exact ha.len) (ledP_bound ha.ok)
  have h3 := h18.sp m as l hm ha hs
  simp [att_many hc, h15.io, h12.io, h18.io, callF, h1, h2, h3]
/-- the other ways of an arrow -/
def otherP (m : Nat) (as l : List Pr) (a : Pr) : Option (List Nat) := sw m ((ledP as l).filter fun p => p ≠ turnP l a) (turnP l a).1 (turnP l a).2
def SOther (f : FS) : Prop := ∀ (m : Nat) (as l : List Pr) (a : Pr), m ≤ 1000 → Arr m as → Lot as l → a ∈ as → f [H false m as, .tup (l.map enc), enc a] = .ok (wayT (otherP m as l a), [])
theorem r_other_way {f8 f15 : Nat} (hp : C.pin = []) (hc : C.cl.contains 0 = true) (h8 : Fn C f8 SWay) (h15 : Fn C f15 SLed) : SOther (evF C [] 5 [.asg false (.s 3) (.ife (.cmp .In (.slot 2) (.slot 1)) (.rev (.slot 2) (.un .USub (.cst (.int 1)))) (.slot 2)),
    .ret (.call f8 [.att (.slot 0) "many", .lc (.slot 4) (.s 4) (.val (.call f15 [.slot 0, .slot 1])) [.cmp .NotEq (.slot 4) (.slot 3)] [4], .idx (.slot 3) (.cst (.int 0)), .idx (.slot 3) (.cst (.int 1))])]) := fun m as l a hm ha hs haa => by
  obtain ⟨q, hq⟩ : ∃ q, q = turnP l a := ⟨_, rfl⟩
  obtain ⟨M, hM⟩ : ∃ M, M = (ledP as l).filter fun p => decide (p ≠ q) := ⟨_, rfl⟩
  refine evF_eq (η' := [some (H false m as), some (.tup (l.map enc)), some (enc a), some (enc q), none]) ?_ (outs_nil _)
  have h1 := h15.sp m as l (Nat.le_trans (lot_len hs) ha.len) ha.len hs.nd
  have hsub : ∀ p ∈ M, p ∈ ledP as l := fun p hp' => by rw [hM] at hp'; exact (List.mem_filter.mp hp').1
  have hqok : okP m q := by
    obtain ⟨o1, o2, o3⟩ := ha.ok a haa
    rw [hq]; unfold turnP
    split
    · exact ⟨o2, o1, Ne.symm o3⟩
    · exact ⟨o1, o2, o3⟩
  have hMl : M.length ≤ 1000 := by rw [hM]; exact Nat.le_trans (List.length_filter_le _ _) (by rw [ledP_len]; exact ha.len)
  have h2 := h8.sp m M (.lst false (M.map enc)) q.1 q.2 (SeqP.lst M) hm hMl (fun p hp' => ledP_bound ha.ok p (hsub p hp')) hqok.1
  have l1 : evE C (.lc (.slot 4) (.s 4) (.val (.call f15 [.slot 0, .slot 1])) [.cmp .NotEq (.slot 4) (.slot 3)] [4]) [some (H false m as), some (.tup (l.map enc)), some (enc a), some (enc q), none] =
      .ok (.v (.lst true (M.map enc)), [some (H false m as), some (.tup (l.map enc)), some (enc a), some (enc q), none]) := by
    rw [lc_filter enc enc (fun p : Pr => decide (p ≠ q)) (ledP as l) (η1 := [some (H false m as), some (.tup (l.map enc)), some (enc a), some (enc q), none])]
    · rw [← hM]; simp
    · simp [h15.io, callF, h1]
    · simp [plainSl, hp]
    · rw [ledP_len]; have := ha.len; simp only [sizeL]; omega
    · intro p _
      by_cases e : p = q <;> simp [turnL, c_neE (α := Pr) (by decide), e]
  have hin : cmpT .In (enc a) (.tup (l.map enc)) = some (.bl (decide (a ∈ l))) := (c_inT (α := Pr) (by decide) a l).trans (by congr)
  have e1 : otherP m as l a = sw m M q.1 q.2 := by
    unfold otherP
    rw [← hq]
    have : ((ledP as l).filter fun p => decide (p ≠ q)) = M := hM.symm
    rw [← this]
  rw [e1]
  by_cases e : a ∈ l
  · have eq' : (a.2, a.1) = q := by rw [hq]; simp [turnP, e]
    simp [hin, e, hp, l1, att_many hc, h8.io, callF]
    rw [eq']
    simp [l1, h2]
  · have eq' : a = q := by rw [hq]; simp [turnP, e]
    simp only [← eq'] at l1 h2 ⊢
    simp [hin, e, hp, l1, att_many hc, h8.io, callF, h2]
def bareF (m : Nat) (as l : List Pr) : List Pr := as.filter fun a => (otherP m as l a).isNone
def SBare (f : FS) : Prop := ∀ (m : Nat) (as l : List Pr), m ≤ 1000 → Arr m as → Stand as l → f [H false m as, .tup (l.map enc)] = .ok (.tup ((bareF m as l).map enc), [])
theorem wayT_non (r : Option (List Nat)) : (wayT r).isNon = r.isNone := by cases r <;> rfl
theorem wayT_sh (r : Option (List Nat)) : (wayT r).sh = true := by cases r <;> simp [wayT]
theorem r_raw_bare {f21 : Nat} (hp : C.pin = []) (hc : C.cl.contains 0 = true) (h21 : Fn C f21 SOther) : SBare (evF C [] 3 [.ret (.bf .tuple [.lc (.slot 2) (.s 2) (.val (.att (.slot 0) "arrows")) [.cmp .Is (.call f21 [.slot 0, .slot 1, .slot 2]) (.cst .non)] [2]])]) := fun m as l hm ha hs => by
  refine evF_eq (η' := [some (H false m as), some (.tup (l.map enc)), none]) ?_ (outs_nil _)
  have l1 : evE C (.lc (.slot 2) (.s 2) (.val (.att (.slot 0) "arrows")) [.cmp .Is (.call f21 [.slot 0, .slot 1, .slot 2]) (.cst .non)] [2]) [some (H false m as), some (.tup (l.map enc)), none] = .ok (.v (.lst true ((bareF m as l).map enc)), [some (H false m as), some (.tup (l.map enc)), none]) := by
    rw [lc_filter enc enc (fun a : Pr => (otherP m as l a).isNone) as (η1 := [some (H false m as), some (.tup (l.map enc)), none])]
    · simp [bareF]
    · simp [att_arrows hc]
    · simp [plainSl, hp]
    · have := ha.len; simp only [sizeL]; omega
    · intro a haa
      have h1 := h21.sp m as l a hm ha hs.lot haa
      cases e : (otherP m as l a).isNone <;> simp [turnL, h21.io, callF, h1, wayT_non, wayT_sh, e]
  simp [l1]
theorem r_bare {f18 f22 : Nat} (h18 : Fn C f18 SChk) (h22 : Fn C f22 SBare) : SBare (evF C [] 2 [.expr (.call f18 [.slot 0, .slot 1]), .ret (.call f22 [.slot 0, .slot 1])]) := fun m as l hm ha hs => by
  refine evF_eq (η' := [some (H false m as), some (.tup (l.map enc))]) ?_ (outs_nil _)
  have h1 := h18.sp m as l hm ha hs
  have h2 := h22.sp m as l hm ha hs
  simp [h18.io, h22.io, callF, h1, h2]
/-- a home made -/
theorem mk_home {f10 : Nat} {η η1 : Env} {es : List CE} {os : List Opd} {m : Nat} {l : List Pr} (hi : C.init 0 = some f10) (hio : C.io f10 = [true]) (h10 : SInit (C.fs f10)) (hm1 : 1 ≤ m) (hm2 : m ≤ 10) (hg : Good m l) (he : evs C es η = .ok (os, η1)) (hos : args os [] η1 = some ([.int m, .tup (l.map enc)], η1, [])) :
    evE C (.mk 0 es) η = .ok (.v (H true m (srt l)), η1) := by
  rw [x_mk, he]
  simp only [rb_ok, hi, hio, mkF, List.tail_cons, hos, h10 m l hm1 hm2 hg, back_nil, rc_ok]
def SHome (f : FS) : Prop := ∀ (m : Nat) (as l : List Pr), 1 ≤ m → m ≤ 10 → Arr m as → Stand as l → f [H false m as, .tup (l.map enc)] = .ok (H true m (ledP as l), [])
theorem srt_ledP (as l : List Pr) : srt (ledP as l) = ledP as l := srt_srt _
theorem r_raw_turned {f10 f15 : Nat} (hc : C.cl.contains 0 = true) (hi : C.init 0 = some f10) (hio : C.io f10 = [true]) (h10 : SInit (C.fs f10)) (h15 : Fn C f15 SLed) : SHome (evF C [] 2 [.ret (.mk 0 [.att (.slot 0) "many", .call f15 [.slot 0, .slot 1]])]) := fun m as l hm1 hm2 ha hs => by
  refine evF_eq (η' := [some (H false m as), some (.tup (l.map enc))]) ?_ (outs_nil _)
  have h1 := h15.sp m as l (Nat.le_trans (lot_len hs.lot) ha.len) ha.len hs.lot.nd
  have h2 := mk_home (C := C) (η := [some (H false m as), some (.tup (l.map enc))]) (η1 := [some (H false m as), some (.tup (l.map enc))]) (es := [.att (.slot 0) "many", .call f15 [.slot 0, .slot 1]]) (os := [.v (.int m), .v (.tup ((ledP as l).map enc))]) hi hio h10 hm1 hm2 ((ledP_arr ha).good hs.ac) (by simp [att_many hc, h15.io, callF, h1]) (by simp)
  rw [srt_ledP] at h2
  show evB C _ [some (H false m as), some (.tup (l.map enc))] = _
  simp only [x_B, x_ret, h2, ro_ok, keep_v]
theorem r_turned_home {f18 f24 : Nat} (h18 : Fn C f18 SChk) (h24 : Fn C f24 SHome) : SHome (evF C [] 2 [.expr (.call f18 [.slot 0, .slot 1]), .ret (.call f24 [.slot 0, .slot 1])]) := fun m as l hm1 hm2 ha hs => by
  refine evF_eq (η' := [some (H false m as), some (.tup (l.map enc))]) ?_ (outs_nil _)
  have h1 := h18.sp m as l (by omega) ha hs
  have h2 := h24.sp m as l hm1 hm2 ha hs
  simp [h18.io, h24.io, callF, h1, h2]
def seenP (as l l' : List Pr) : List Pr := (ledP as l).filter fun p => p ∉ ledP as l'
def SSeen (f : FS) : Prop := ∀ (m : Nat) (as l l' : List Pr), m ≤ 1000 → Arr m as → Stand as l → Stand as l' → f [H false m as, .tup (l.map enc), .tup (l'.map enc)] = .ok (.tup ((seenP as l l').map enc), [])
theorem r_seen_from {f15 f18 : Nat} (hp : C.pin = []) (h15 : Fn C f15 SLed) (h18 : Fn C f18 SChk) : SSeen (evF C [] 5 [.expr (.call f18 [.slot 0, .slot 1]), .expr (.call f18 [.slot 0, .slot 2]), .asg false (.s 3) (.dc (.slot 4) (.cst (.bl true)) (.s 4) (.val (.call f15 [.slot 0, .slot 2])) [] [4]),
    .ret (.bf .tuple [.lc (.slot 4) (.s 4) (.val (.call f15 [.slot 0, .slot 1])) [.cmp .NotIn (.slot 4) (.slot 3)] [4]])]) := fun m as l l' hm ha hs hs' => by
  obtain ⟨D, hD⟩ : ∃ D, D = dicT true ((ledP as l').map fun p => (p, T.bl true)) := ⟨_, rfl⟩
  have ef : D.fl = true := by rw [hD]; rfl
  have es : D.sh = true := by rw [hD]; exact dic_trues_sh _ _
  have e : ∀ p : Pr, cmpT .NotIn (enc p) D = some (.bl (!decide (p ∈ ledP as l'))) := fun p => by rw [hD]; exact (nin_trues true (ledP as l') p).trans (by congr)
  have c1 := h18.sp m as l hm ha hs
  have c2 := h18.sp m as l' hm ha hs'
  have d1 := h15.sp m as l (Nat.le_trans (lot_len hs.lot) ha.len) ha.len hs.lot.nd
  have d2 := h15.sp m as l' (Nat.le_trans (lot_len hs'.lot) ha.len) ha.len hs'.lot.nd
  refine evF_eq (η' := [some (H false m as), some (.tup (l.map enc)), some (.tup (l'.map enc)), some D, none]) ?_ (outs_nil _)
  have l1 : evE C (.dc (.slot 4) (.cst (.bl true)) (.s 4) (.val (.call f15 [.slot 0, .slot 2])) [] [4]) [some (H false m as), some (.tup (l.map enc)), some (.tup (l'.map enc)), none, none] = .ok (.v D, [some (H false m as), some (.tup (l.map enc)), some (.tup (l'.map enc)), none, none]) := by
    rw [dc_map enc (fun p : Pr => p) (fun _ => .bl true) (ledP as l') (η1 := [some (H false m as), some (.tup (l.map enc)), some (.tup (l'.map enc)), none, none])]
    · simp [hD]
    · simp [h15.io, callF, d2]
    · simp [plainSl, hp]
    · rw [ledP_len]; have := ha.len; simp only [sizeL]; omega
    · simpa using ledP_nodup ha.ap
    · intro p _
      simp [turnD]
  have l2 : evE C (.lc (.slot 4) (.s 4) (.val (.call f15 [.slot 0, .slot 1])) [.cmp .NotIn (.slot 4) (.slot 3)] [4]) [some (H false m as), some (.tup (l.map enc)), some (.tup (l'.map enc)), some D, none] = .ok (.v (.lst true ((seenP as l l').map enc)), [some (H false m as), some (.tup (l.map enc)), some (.tup (l'.map enc)), some D, none]) := by
    rw [lc_filter enc enc (fun p : Pr => decide (p ∉ ledP as l')) (ledP as l) (η1 := [some (H false m as), some (.tup (l.map enc)), some (.tup (l'.map enc)), some D, none])]
    · simp [seenP]
    · simp [h15.io, callF, d1]
    · simp [plainSl, hp]
    · rw [ledP_len]; have := ha.len; simp only [sizeL]; omega
    · intro p _
      by_cases h : p ∈ ledP as l' <;> simp [turnL, e, ef, es, h]
  simp [hp, h18.io, callF, c1, c2, l1, l2]
end
end TV
/-! homes seen from standings: what is plain about it -/
namespace TV
theorem ext_sorted {α : Type} [DecidableEq α] [Enc α] : ∀ {l m : List α}, (l.Pairwise fun a b => Enc.lt a b = true) → (m.Pairwise fun a b => Enc.lt a b = true) → (∀ x, x ∈ l ↔ x ∈ m) → l = m
  | [], [], _, _, _ => rfl
  | [], b :: m, _, _, h => by have := (h b).mpr (by simp); simp at this
  | a :: l, [], _, _, h => by have := (h a).mp (by simp); simp at this
  | a :: l, b :: m, hl, hm, h => by
    rw [List.pairwise_cons] at hl hm
    have e : a = b := by
      rcases List.mem_cons.mp ((h a).mp (by simp)) with e | ha
      · exact e
      · rcases List.mem_cons.mp ((h b).mpr (by simp)) with e | hb
        · exact e.symm
        · have := Enc.tr _ _ _ (hm.1 a ha) (hl.1 b hb)
          rw [Enc.irr] at this; cases this
    subst e
    rw [ext_sorted hl.2 hm.2 fun x => ⟨fun hx => ?_, fun hx => ?_⟩]
    · rcases List.mem_cons.mp ((h x).mp (by simp [hx])) with e | hx'
      · subst e; have := hl.1 x hx; rw [Enc.irr] at this; cases this
      · exact hx'
    · rcases List.mem_cons.mp ((h x).mpr (by simp [hx])) with e | hx'
      · subst e; have := hm.1 x hx; rw [Enc.irr] at this; cases this
      · exact hx'
def swp (p : Pr) : Pr := (p.2, p.1)
theorem swp_swp (p : Pr) : swp (swp p) = p := rfl
theorem turn_or (l : List Pr) (a : Pr) : turnP l a = a ∨ turnP l a = swp a := by unfold turnP swp; split <;> simp
theorem apart_mem : ∀ {l : List Pr}, Apart l → ∀ a ∈ l, ∀ b ∈ l, a ≠ b → a ≠ swp b
  | [], _, a, ha, _, _, _ => by simp at ha
  | c :: l, h, a, ha, b, hb, hab => by
    unfold Apart at h
    rw [List.pairwise_cons] at h
    rcases List.mem_cons.mp ha with e1 | h1
    · rcases List.mem_cons.mp hb with e2 | h2
      · exact absurd (e1.trans e2.symm) hab
      · rw [e1]; exact (h.1 b h2).2
    · rcases List.mem_cons.mp hb with e2 | h2
      · intro e
        refine (h.1 a h1).2 ?_
        rw [e, e2]; rfl
      · exact apart_mem h.2 a h1 b h2 hab
theorem mem_led {as l : List Pr} {q : Pr} : q ∈ ledP as l ↔ ∃ a ∈ as, turnP l a = q := by
  rw [ledP_eq, mem_srt, List.mem_map]
theorem in_led {as l l' : List Pr} (h : Apart as) {a : Pr} (ha : a ∈ as) : turnP l a ∈ ledP as l' ↔ turnP l a = turnP l' a := by
  rw [mem_led]
  constructor
  · rintro ⟨b, hb, e⟩
    by_cases hab : a = b
    · subst hab; exact e.symm
    · exfalso
      have h1 := apart_mem h a ha b hb hab
      have h2 := apart_mem h b hb a ha (Ne.symm hab)
      rcases turn_or l a with e1 | e1 <;> rcases turn_or l' b with e2 | e2 <;> rw [e1, e2] at e
      · exact hab e.symm
      · exact h1 e.symm
      · exact h2 e
      · exact hab (by have := congrArg swp e; simpa [swp_swp] using this.symm)
  · intro e; exact ⟨a, ha, e.symm⟩
theorem turn_ne {l l' : List Pr} {a : Pr} (h : turnP l a ≠ turnP l' a) : swp (turnP l a) = turnP l' a := by
  rcases turn_or l a with e1 | e1 <;> rcases turn_or l' a with e2 | e2
  · exact absurd (e1.trans e2.symm) h
  · rw [e1, e2]
  · rw [e1, e2, swp_swp]
  · exact absurd (e1.trans e2.symm) h
theorem seen_led {as : List Pr} (h : Apart as) (l l' : List Pr) : ledP (ledP as l) (seenP as l l') = ledP as l' := by
  rw [ledP_eq (ledP as l), ledP_eq as l']
  have hp : ((ledP as l).map (turnP (seenP as l l'))).Perm ((as.map (turnP l)).map (turnP (seenP as l l'))) := (srt_perm _).map _
  rw [srt_eq hp, List.map_map]
  congr 1
  refine List.map_congr_left fun a ha => ?_
  show turnP (seenP as l l') (turnP l a) = turnP l' a
  have hB : turnP l a ∈ ledP as l := mem_led.mpr ⟨a, ha, rfl⟩
  have hS : turnP l a ∈ seenP as l l' ↔ turnP l a ≠ turnP l' a := by
    unfold seenP
    rw [List.mem_filter, decide_eq_true_eq, in_led (l' := l') h ha]
    exact ⟨fun z => z.2, fun z => ⟨hB, z⟩⟩
  by_cases e : turnP l a = turnP l' a
  · rw [turnP, if_neg (fun z => hS.mp z e)]; exact e
  · rw [turnP, if_pos (hS.mpr e)]; exact turn_ne e
theorem seen_lot {m : Nat} {as : List Pr} (h : Arr m as) (l l' : List Pr) : Lot (ledP as l) (seenP as l l') := ⟨fun p hp => (List.mem_filter.mp hp).1, (ledP_asc h.ap).filter _⟩
theorem seen_stand {m : Nat} {as l l' : List Pr} (h : Arr m as) (hs : Stand as l') : Stand (ledP as l) (seenP as l l') := ⟨seen_lot h l l', by rw [seen_led h.ap]; exact hs.ac⟩
theorem seen_self (as l : List Pr) : seenP as l l = [] := by
  unfold seenP
  rw [List.filter_eq_nil_iff]
  intro p hp
  simp [hp]
theorem turn_nil (a : Pr) : turnP [] a = a := by simp [turnP]
theorem le_of_lt {α : Type} [DecidableEq α] [Enc α] {a b : α} (h : Enc.lt a b = true) : leE a b = true := by
  unfold leE
  cases e : Enc.lt b a with
  | false => rfl
  | true => have := Enc.tr _ _ _ h e; rw [Enc.irr] at this; cases this
theorem led_nil {m : Nat} {as : List Pr} (h : Arr m as) : ledP as [] = as := by
  rw [ledP_eq, show as.map (turnP []) = as from (List.map_congr_left fun a _ => turn_nil a).trans (List.map_id as)]
  exact srt_id (h.asc.imp fun e => le_of_lt e)
theorem okP_swp {m : Nat} {p : Pr} (h : okP m p) : swp p ≠ p := fun e => h.2.2 (by have := congrArg Prod.fst e; exact this.symm)
theorem seen_nil {m : Nat} {as l : List Pr} (h : Arr m as) (hl : Lot as l) : seenP as [] l = l := by
  refine ext_sorted ((ledP_asc h.ap).filter _) hl.asc fun x => ?_
  unfold seenP
  rw [List.mem_filter, decide_eq_true_eq, led_nil h]
  constructor
  · rintro ⟨h1, h2⟩
    have := in_led (l := []) (l' := l) h.ap h1
    rw [turn_nil] at this
    rw [this] at h2
    by_cases e : x ∈ l
    · exact e
    · exact absurd (by simp [turnP, e]) h2
  · intro hx
    have h1 := hl.sub x hx
    refine ⟨h1, ?_⟩
    have := in_led (l := []) (l' := l) h.ap h1
    rw [turn_nil] at this
    rw [this]
    intro e
    rw [turnP, if_pos hx] at e
    exact okP_swp (h.ok x h1) e.symm
theorem bare_turned {m : Nat} {as : List Pr} (h : Arr m as) (l : List Pr) : bareF m (ledP as l) [] = srt ((bareF m as l).map (turnP l)) := by
  have hnd : ((bareF m as l).map (turnP l)).Nodup := by
    have h1 : Apart (bareF m as l) := List.Pairwise.filter _ h.ap
    unfold Apart at h1
    rw [List.Nodup, List.pairwise_map]
    exact h1.imp fun {p q} e => (turn_apart e).1
  refine ext_sorted ((ledP_asc h.ap).filter _) (strict_of (srt_sorted _) (srt_nodup hnd)) fun x => ?_
  rw [mem_srt, List.mem_map]
  unfold bareF
  rw [List.mem_filter]
  have key : ∀ a, otherP m as l a = otherP m (ledP as l) [] (turnP l a) := fun a => by
    unfold otherP
    rw [led_nil (ledP_arr h), turn_nil]
  constructor
  · rintro ⟨h1, h2⟩
    obtain ⟨a, ha, e⟩ := mem_led.mp h1
    refine ⟨a, List.mem_filter.mpr ⟨ha, ?_⟩, e⟩
    rw [key a, e]; exact h2
  · rintro ⟨a, ha, e⟩
    obtain ⟨h1, h2⟩ := List.mem_filter.mp ha
    refine ⟨mem_led.mpr ⟨a, h1, e⟩, ?_⟩
    rw [key a, e] at h2; exact h2
theorem seen_back {m : Nat} {as : List Pr} (h : Arr m as) (l l' : List Pr) : srt ((seenP as l' l).map swp) = seenP as l l' := by
  have hnd : ((seenP as l' l).map swp).Nodup := by
    have h1 : (seenP as l' l).Nodup := (ledP_nodup h.ap).filter _
    rw [List.Nodup, List.pairwise_map]
    exact h1.imp fun {p q} e z => e (by have := congrArg swp z; simpa [swp_swp] using this)
  refine ext_sorted (strict_of (srt_sorted _) (srt_nodup hnd)) ((ledP_asc h.ap).filter _) fun x => ?_
  rw [mem_srt, List.mem_map]
  unfold seenP
  rw [List.mem_filter, decide_eq_true_eq]
  constructor
  · rintro ⟨q, hq, rfl⟩
    rw [List.mem_filter, decide_eq_true_eq] at hq
    obtain ⟨a, ha, rfl⟩ := mem_led.mp hq.1
    have hne : turnP l' a ≠ turnP l a := fun e => hq.2 ((in_led h.ap ha).mpr e)
    rw [turn_ne hne]
    exact ⟨mem_led.mpr ⟨a, ha, rfl⟩, fun z => hne ((in_led h.ap ha).mp z).symm⟩
  · rintro ⟨h1, h2⟩
    obtain ⟨a, ha, rfl⟩ := mem_led.mp h1
    have hne : turnP l a ≠ turnP l' a := fun e => h2 ((in_led h.ap ha).mpr e)
    refine ⟨turnP l' a, List.mem_filter.mpr ⟨mem_led.mpr ⟨a, ha, rfl⟩, ?_⟩, ?_⟩
    · rw [decide_eq_true_eq]
      exact fun z => hne ((in_led h.ap ha).mp z).symm
    · exact turn_ne (Ne.symm hne)
/-- a lot with one arrow turned, or turned back -/
def flipP (l : List Pr) (a : Pr) : List Pr := srt ((l.filter fun p => p ≠ a) ++ if a ∈ l then [] else [a])
theorem flip_lot {as l : List Pr} (h : Lot as l) {a : Pr} (ha : a ∈ as) : Lot as (flipP l a) := by
  have hn : ((l.filter fun p => p ≠ a) ++ if a ∈ l then [] else [a]).Nodup := by
    refine List.nodup_append.mpr ⟨h.nd.filter _, by split <;> simp, fun x hx y hy => ?_⟩
    split at hy
    · simp at hy
    · simp only [List.mem_singleton] at hy
      subst hy
      have := (List.mem_filter.mp hx).2
      simpa using this
  refine ⟨fun p hp => ?_, strict_of (srt_sorted _) (srt_nodup hn)⟩
  rcases List.mem_append.mp (mem_srt.mp hp) with h1 | h1
  · exact h.sub p (List.mem_filter.mp h1).1
  · split at h1
    · simp at h1
    · simp only [List.mem_singleton] at h1; subst h1; exact ha
end TV
/-! what the laws draw -/
namespace TV
open PySem L2
open Enc (enc)
/-- a law's hand: the cells, where it stands -/
def handT (cells : List Int) (a : Nat) (b c d : Int) : T := .lst true [.lst false (cells.map T.int), .int a, .int b, .int c, .int d]
def HandOk (h : T) : Prop := ∃ cells a b c d, h = handT cells a b c d
theorem HandOk.fl {h : T} (k : HandOk h) : h.fl = true := by obtain ⟨_, _, _, _, _, rfl⟩ := k; rfl
theorem HandOk.sh {h : T} (k : HandOk h) : h.sh = true := by
  obtain ⟨cells, _, _, _, _, rfl⟩ := k
  simp [handT, fzs_intL]
section
variable {C : Ctx}
def SHand (f : FS) : Prop := ∀ ns : List Int, ns.length ≤ 63 → ∃ h, f [.lst false (ns.map T.int)] = .ok (h, []) ∧ HandOk h
theorem slc_63 {ns : List Int} (h : ns.length ≤ 63) : slcT (.lst false (ns.map T.int)) .non (.int 63) = some (.lst true (ns.map T.int)) := by
  have e1 : optI .non = some none := rfl
  have e2 : optI (.int 63) = some (some 63) := rfl
  simp only [slcT, e1, e2, cut, sIx, List.length_map]
  rw [if_pos (by omega)]
  have e3 : min (63 : Int).toNat ns.length = ns.length := by
    show min 63 ns.length = _
    omega
  rw [e3]
  simp only [List.drop_zero, Nat.sub_zero]
  rw [List.take_of_length_le (by simp)]
theorem r_law_hand (hp : C.pin = []) : SHand (evF C [] 3 [.asg false (.s 1) (.lc (.bf .abs [.bf .int [.slot 2]]) (.s 2) (.val (.slc (.slot 0) (.omit) (.cst (.int 63)))) [] [2]), .ret (.lst [.slot 1, .cst (.int 0), .cst (.int 0), .bin .Add (.cst (.int 1)) (.bf .len [.slot 1]), .cst (.int 0)])]) := fun ns hn => by
  obtain ⟨cs, hcs⟩ : ∃ cs : List Int, cs = ns.map fun n => if n < 0 then -n else n := ⟨_, rfl⟩
  refine ⟨handT cs 0 0 (1 + cs.length) 0, ?_, cs, 0, 0, _, 0, rfl⟩
  have l1 : evE C (.lc (.bf .abs [.bf .int [.slot 2]]) (.s 2) (.val (.slc (.slot 0) (.omit) (.cst (.int 63)))) [] [2]) [some (.lst false (ns.map T.int)), none, none] = .ok (.v (.lst true (cs.map T.int)), [some (.lst false (ns.map T.int)), none, none]) := by
    rw [lc_map T.int (fun n => T.int (if n < 0 then -n else n)) ns (η1 := [some (.lst false (ns.map T.int)), none, none])]
    · rw [hcs]; simp
    · have hf := fzs_intL ns
      have hf2 : frzs (ns.map T.int) = ns.map T.int := frzs_id _ hf
      simp [slc_63 hn, hf, hf2]
    · simp [plainSl, hp]
    · simp only [sizeL]; omega
    · intro n _
      simp [turnL]
  refine evF_eq (η' := [some (.lst false (ns.map T.int)), some (.lst false (cs.map T.int)), none]) ?_ (outs_nil _)
  have hf2 : frzs (cs.map T.int) = cs.map T.int := frzs_id _ (fzs_intL cs)
  simp [l1, hp, fzs_intL, hf2, handT]
/-- what is drawn: below m, and the hand goes on -/
def SDraw (f : FS) : Prop := ∀ (h : T) (m : Nat), HandOk h → 1 ≤ m → m ≤ 1000000 → ∃ (r : Nat) (h' : T), f [h, .int m] = .ok (.int r, [some h']) ∧ r < m ∧ HandOk h'
theorem ix5 (c0 c1 c2 c3 c4 : T) (o : Bool) : childOf (.lst o [c0, c1, c2, c3, c4]) (.int 0) = some 0 ∧ childOf (.lst o [c0, c1, c2, c3, c4]) (.int 1) = some 1 ∧ childOf (.lst o [c0, c1, c2, c3, c4]) (.int 2) = some 2 ∧ childOf (.lst o [c0, c1, c2, c3, c4]) (.int 3) = some 3 ∧ childOf (.lst o [c0, c1, c2, c3, c4]) (.int 4) = some 4 := ⟨rfl, rfl, rfl, rfl, rfl⟩
theorem st5 (c0 c1 c2 c3 c4 x : T) : setT (.lst true [c0, c1, c2, c3, c4]) (.int 1) x = some (.lst true [c0, x, c2, c3, c4]) ∧ setT (.lst true [c0, c1, c2, c3, c4]) (.int 2) x = some (.lst true [c0, c1, x, c3, c4]) ∧ setT (.lst true [c0, c1, c2, c3, c4]) (.int 3) x = some (.lst true [c0, c1, c2, x, c4]) ∧ setT (.lst true [c0, c1, c2, c3, c4]) (.int 4) x = some (.lst true [c0, c1, c2, c3, x]) := ⟨rfl, rfl, rfl, rfl⟩
theorem pw18 : binT .Pow (.int 10) (.int 18) = some (.int 1000000000000000000) := by
  rw [b_pow (by decide)]; rfl
def drawA : CS := .ife (.tand (.cmp .Eq (.idx (.slot 0) (.cst (.int 2))) (.cst (.int 0))) (.cmp .Lt (.idx (.slot 0) (.cst (.int 1))) (.bf .len [.idx (.slot 0) (.cst (.int 0))]))) [.asg false (.s 3) (.idx (.idx (.slot 0) (.cst (.int 0))) (.idx (.slot 0) (.cst (.int 1)))), .asgIx (.slot 0) (.cst (.int 1)) (.bin .Add (.idx (.slot 0) (.cst (.int 1))) (.cst (.int 1))), .asgIx (.slot 0) (.cst (.int 3)) (.bin .Mod (.bf .int [.bin .Add (.bin .Add (.bin .Mult (.idx (.slot 0) (.cst (.int 3))) (.cst (.int 69621))) (.slot 3)) (.cst (.int 11))]) (.cst (.int 2147483629))), .ife (.cmp .GtE (.slot 3) (.bin .Pow (.cst (.int 10)) (.cst (.int 18)))) [.asgIx (.slot 0) (.cst (.int 2)) (.slot 3)] []] []
def drawB : CS := .ife (.cmp .Gt (.idx (.slot 0) (.cst (.int 2))) (.cst (.int 0))) [.asg false (.s 4) (.bin .Mod (.bf .int [.idx (.slot 0) (.cst (.int 2))]) (.slot 1)), .asgIx (.slot 0) (.cst (.int 2)) (.bin .FloorDiv (.idx (.slot 0) (.cst (.int 2))) (.slot 1)), .ret (.slot 4)] []
def drawC : List CS := [.asgIx (.slot 0) (.cst (.int 4)) (.bin .Add (.idx (.slot 0) (.cst (.int 4))) (.cst (.int 1))), .asg false (.s 2) (.bin .Mod (.bf .int [.bin .Mult (.bf .int [.bin .Add (.idx (.slot 0) (.cst (.int 3))) (.bin .Mult (.cst (.int 7919)) (.idx (.slot 0) (.cst (.int 4))))]) (.cst (.int 48271))]) (.cst (.int 2147483647))), .asg false (.s 2) (.bin .Mod (.bf .int [.bin .Mult (.slot 2) (.bin .Add (.bin .FloorDiv (.slot 2) (.cst (.int 1009))) (.cst (.int 69621)))]) (.cst (.int 2147483647))), .asg false (.s 2) (.bin .Mod (.bf .int [.bin .Mult (.slot 2) (.bin .Add (.bin .FloorDiv (.slot 2) (.cst (.int 2003))) (.cst (.int 40692)))]) (.cst (.int 2147483399))), .ret (.bin .Mod (.bf .int [.bin .FloorDiv (.slot 2) (.cst (.int 16))]) (.slot 1))]
theorem draw_A (hp : C.pin = [0]) {h : T} {m : Int} (k : HandOk h) : ∃ h' s3, evS C drawA [some h, some (.int m), none, none, none] = .nx [some h', some (.int m), none, s3, none] ∧ HandOk h' := by
  obtain ⟨cells, a, b, c, d, rfl⟩ := k
  have i1 := fun c0 c1 c2 c3 c4 o => (ix5 c0 c1 c2 c3 c4 o).1
  have i2 := fun c0 c1 c2 c3 c4 o => (ix5 c0 c1 c2 c3 c4 o).2.1
  have i3 := fun c0 c1 c2 c3 c4 o => (ix5 c0 c1 c2 c3 c4 o).2.2.1
  have i4 := fun c0 c1 c2 c3 c4 o => (ix5 c0 c1 c2 c3 c4 o).2.2.2.1
  have t1 := fun c0 c1 c2 c3 c4 x => (st5 c0 c1 c2 c3 c4 x).1
  have t2 := fun c0 c1 c2 c3 c4 x => (st5 c0 c1 c2 c3 c4 x).2.1
  have t3 := fun c0 c1 c2 c3 c4 x => (st5 c0 c1 c2 c3 c4 x).2.2.1
  have hf := fzs_intL cells
  by_cases e1 : b = 0
  · by_cases e2 : a < cells.length
    · have hc : childOf (.lst false (cells.map T.int)) (.int a) = some a := child_lst (by simpa using e2)
      have hx : (cells.map T.int)[a]? = some (.int cells[a]) := by simp [e2]
      have m1 : ∀ i : Int, binT .Mult (.int i) (.int 69621) = some (.int (i * 69621)) := fun i => b_mul (.inl (by decide))
      have m2 : ∀ i : Int, binT .Mod (.int i) (.int 2147483629) = some (.int (i % 2147483629)) := fun i => b_mod (by decide)
      by_cases e3 : (1000000000000000000 : Int) ≤ cells[a]
      · refine ⟨handT cells (a + 1) cells[a] ((c * 69621 + cells[a] + 11) % 2147483629) d, some (.int cells[a]), ?_, _, _, _, _, _, rfl⟩
        simp [drawA, handT, idxE, i1, i2, i3, i4, hf, e1, e2, hc, hx, hp, t1, t3, m1, m2, pw18, e3, t2]
      · refine ⟨handT cells (a + 1) b ((c * 69621 + cells[a] + 11) % 2147483629) d, some (.int cells[a]), ?_, _, _, _, _, _, rfl⟩
        simp [drawA, handT, idxE, i1, i2, i3, i4, hf, e1, e2, hc, hx, hp, t1, t3, m1, m2, pw18, e3, t2]
    · refine ⟨handT cells a b c d, none, ?_, _, _, _, _, _, rfl⟩
      simp [drawA, handT, idxE, i1, i2, i3, i4, hf, e1, e2]
  · refine ⟨handT cells a b c d, none, ?_, _, _, _, _, _, rfl⟩
    simp [drawA, handT, idxE, i1, i2, i3, i4, hf, e1]
theorem draw_B (hp : C.pin = [0]) {h : T} {m : Nat} {s3 : Option T} (k : HandOk h) (hm1 : 1 ≤ m) (hm2 : m ≤ 1000000) : evS C drawB [some h, some (.int m), none, s3, none] = .nx [some h, some (.int m), none, s3, none] ∨ ∃ (r : Nat) (h' : T) (s4 : Option T), evS C drawB [some h, some (.int m), none, s3, none] = .rt (.int r) [some h', some (.int m), none, s3, s4] ∧ r < m ∧ HandOk h' := by
  obtain ⟨cells, a, b, c, d, rfl⟩ := k
  have i3 := fun c0 c1 c2 c3 c4 o => (ix5 c0 c1 c2 c3 c4 o).2.2.1
  have t2 := fun c0 c1 c2 c3 c4 x => (st5 c0 c1 c2 c3 c4 x).2.1
  have hf := fzs_intL cells
  by_cases e : 0 < b
  · right
    have q1 : ∀ i : Int, binT .Mod (.int i) (.int m) = some (.int (i % m)) := fun i => b_mod (by omega)
    have q2 : ∀ i : Int, binT .FloorDiv (.int i) (.int m) = some (.int (i / m)) := fun i => b_div (by omega)
    have n1 : 0 ≤ b % (m : Int) := Int.emod_nonneg _ (by omega)
    have n2 : b % (m : Int) < m := Int.emod_lt_of_pos _ (by omega)
    have n3 : (((b % (m : Int)).toNat : Nat) : Int) = b % (m : Int) := Int.toNat_of_nonneg n1
    refine ⟨(b % (m : Int)).toNat, handT cells a (b / m) c d, some (.int (b % m)), ?_, by omega, _, _, _, _, _, rfl⟩
    rw [n3]
    simp [drawB, handT, idxE, i3, hf, e, q1, q2, t2, hp]
  · left
    simp [drawB, handT, idxE, i3, hf, e]
theorem draw_C (hp : C.pin = [0]) {h : T} {m : Nat} {s3 : Option T} (k : HandOk h) (hm1 : 1 ≤ m) : ∃ (r : Nat) (h' : T) (s2 : Option T), evB C drawC [some h, some (.int m), none, s3, none] = .rt (.int r) [some h', some (.int m), s2, s3, none] ∧ r < m ∧ HandOk h' := by
  obtain ⟨cells, a, b, c, d, rfl⟩ := k
  have i4 := fun c0 c1 c2 c3 c4 o => (ix5 c0 c1 c2 c3 c4 o).2.2.2.1
  have i5 := fun c0 c1 c2 c3 c4 o => (ix5 c0 c1 c2 c3 c4 o).2.2.2.2
  have t4 := fun c0 c1 c2 c3 c4 x => (st5 c0 c1 c2 c3 c4 x).2.2.2
  have hf := fzs_intL cells
  have m1 : ∀ i : Int, binT .Mult (.int 7919) (.int i) = some (.int (7919 * i)) := fun i => b_mul (.inr (by decide))
  have m2 : ∀ i : Int, binT .Mult (.int i) (.int 48271) = some (.int (i * 48271)) := fun i => b_mul (.inl (by decide))
  have q1 : ∀ i : Int, binT .Mod (.int i) (.int 2147483647) = some (.int (i % 2147483647)) := fun i => b_mod (by decide)
  have q2 : ∀ i : Int, binT .Mod (.int i) (.int 2147483399) = some (.int (i % 2147483399)) := fun i => b_mod (by decide)
  have q3 : ∀ i : Int, binT .Mod (.int i) (.int m) = some (.int (i % m)) := fun i => b_mod (by omega)
  have d1 : ∀ i : Int, binT .FloorDiv (.int i) (.int 1009) = some (.int (i / 1009)) := fun i => b_div (by decide)
  have d2 : ∀ i : Int, binT .FloorDiv (.int i) (.int 2003) = some (.int (i / 2003)) := fun i => b_div (by decide)
  have d3 : ∀ i : Int, binT .FloorDiv (.int i) (.int 16) = some (.int (i / 16)) := fun i => b_div (by decide)
  have small : ∀ i j : Int, binT .Mult (.int (i % 2147483647)) (.int j) = some (.int (i % 2147483647 * j)) := fun i j => b_mul (.inr (by
    have h1 := Int.emod_nonneg i (show (2147483647 : Int) ≠ 0 by decide)
    have h2 := Int.emod_lt_of_pos i (show (0 : Int) < 2147483647 by decide)
    omega))
  obtain ⟨x1, hx1⟩ : ∃ x : Int, x = (c + 7919 * (d + 1)) * 48271 := ⟨_, rfl⟩
  obtain ⟨x2, hx2⟩ : ∃ x : Int, x = x1 % 2147483647 * (x1 % 2147483647 / 1009 + 69621) := ⟨_, rfl⟩
  obtain ⟨x3, hx3⟩ : ∃ x : Int, x = x2 % 2147483647 * (x2 % 2147483647 / 2003 + 40692) := ⟨_, rfl⟩
  obtain ⟨x4, hx4⟩ : ∃ x : Int, x = x3 % 2147483399 / 16 := ⟨_, rfl⟩
  have n1 : 0 ≤ x4 % (m : Int) := Int.emod_nonneg _ (by omega)
  have n2 : x4 % (m : Int) < m := Int.emod_lt_of_pos _ (by omega)
  have n3 : (((x4 % (m : Int)).toNat : Nat) : Int) = x4 % (m : Int) := Int.toNat_of_nonneg n1
  refine ⟨(x4 % (m : Int)).toNat, handT cells a b c (d + 1), some (.int (x3 % 2147483399)), ?_, by omega, _, _, _, _, _, rfl⟩
  rw [n3]
  simp [drawC, handT, idxE, i4, i5, hf, t4, m1, m2, q1, q2, q3, d1, d2, d3, small, hp, ← hx1, ← hx2, ← hx3, ← hx4]
theorem r_law_draw (hp : C.pin = [0]) : SDraw (evF C [true] 5 (drawA :: drawB :: drawC)) := fun h m k h1 h2 => by
  obtain ⟨h', s3, e1, k1⟩ := draw_A (C := C) hp (m := (m : Int)) k
  rcases draw_B (C := C) hp (s3 := s3) k1 h1 h2 with e2 | ⟨r, h'', s4, e2, q, k2⟩
  · obtain ⟨r, h'', s2, e3, q, k2⟩ := draw_C (C := C) hp (s3 := s3) k1 h1
    refine ⟨r, h'', evF_eq (η' := [some h'', some (.int m), s2, s3, none]) ?_ rfl, q, k2⟩
    show evB C (drawA :: drawB :: drawC) [some h, some (.int m), none, none, none] = _
    rw [evB_nx e1, evB_nx e2, e3]
  · refine ⟨r, h'', evF_eq (η' := [some h'', some (.int m), none, s3, s4]) ?_ rfl, q, k2⟩
    show evB C (drawA :: drawB :: drawC) [some h, some (.int m), none, none, none] = _
    rw [evB_nx e1, evB_rt e2]
end
end TV
/-! drawn homes -/
namespace TV
open PySem L2
open Enc (enc)
def rowP (m u : Nat) : List Pr := (List.range' (u + 1) (m - (u + 1))).map fun v => (u, v)
def pairsTo (m i : Nat) : List Pr := (List.range i).flatMap (rowP m)
/-- all pairs, the lesser one first -/
def pairsM (m : Nat) : List Pr := pairsTo m m
theorem mem_rowP {m u : Nat} {p : Pr} : p ∈ rowP m u ↔ p.1 = u ∧ u < p.2 ∧ p.2 < m := by
  obtain ⟨a, b⟩ := p
  unfold rowP
  rw [List.mem_map]
  constructor
  · rintro ⟨v, hv, e⟩
    rw [List.mem_range'_1] at hv
    cases e
    dsimp only; omega
  · rintro ⟨h1, h2, h3⟩
    dsimp only at *
    exact ⟨b, by rw [List.mem_range'_1]; omega, by rw [h1]⟩
theorem mem_pairsM {m : Nat} {p : Pr} : p ∈ pairsM m ↔ p.1 < p.2 ∧ p.2 < m := by
  unfold pairsM pairsTo
  rw [List.mem_flatMap]
  constructor
  · rintro ⟨u, hu, h⟩
    obtain ⟨h1, h2, h3⟩ := mem_rowP.mp h
    omega
  · rintro ⟨h1, h2⟩
    exact ⟨p.1, List.mem_range.mpr (by omega), mem_rowP.mpr ⟨rfl, h1, h2⟩⟩
theorem pairs_nodup (m i : Nat) : (pairsTo m i).Nodup := by
  induction i with
  | zero => simp [pairsTo]
  | succ i ih =>
    unfold pairsTo at *
    rw [List.range_succ, List.flatMap_append, List.nodup_append]
    refine ⟨ih, ?_, fun a ha b hb e => ?_⟩
    · simp only [List.flatMap_cons, List.flatMap_nil, List.append_nil]
      unfold rowP
      rw [List.Nodup, List.pairwise_map]
      exact (List.nodup_range' (s := i + 1) (n := m - (i + 1))).imp fun {x y} h z => h (by cases z; rfl)
    · simp only [List.flatMap_cons, List.flatMap_nil, List.append_nil] at hb
      subst e
      obtain ⟨u, hu, h⟩ := List.mem_flatMap.mp ha
      have h1 := (mem_rowP.mp h).1
      have h2 := (mem_rowP.mp hb).1
      have := List.mem_range.mp hu
      omega
theorem pairs_len (m i : Nat) : (pairsTo m i).length ≤ i * m := by
  induction i with
  | zero => simp [pairsTo]
  | succ i ih =>
    unfold pairsTo at *
    rw [List.range_succ, List.flatMap_append, List.length_append]
    have : (List.flatMap (rowP m) [i]).length ≤ m := by simp [rowP]
    rw [Nat.succ_mul]; omega
section
variable {C : Ctx}
def SPairs (f : FS) : Prop := ∀ m : Nat, m ≤ 30 → f [.int m] = .ok (.lst false ((pairsM m).map enc), [])
theorem r_law_pairs (hp : C.pin = []) : SPairs (evF C [] 4 [.asg false (.s 1) (.lst []), .for_ (.s 2) (.rng [.slot 0]) [.expr (.bm .extend (.slot 1) [.lc (.tup [.slot 2, .slot 3]) (.s 3) (.rng [.bin .Add (.slot 2) (.cst (.int 1)), .slot 0]) [] [3]])], .ret (.slot 1)]) := fun m hm => by
  obtain ⟨η', h2, s, e⟩ := for_run (C := C) (tg := .s 2) (it := .rng [.slot 0]) (b := [.expr (.bm .extend (.slot 1) [.lc (.tup [.slot 2, .slot 3]) (.s 3) (.rng [.bin .Add (.slot 2) (.cst (.int 1)), .slot 0]) [] [3]])])
    (η := [some (.int m), some (.lst true []), none, none]) (η1 := [some (.int m), some (.lst true []), none, none]) enc (List.range m) (it_rng1 (o := .v (.int m)) (by simp) (by simp) (by omega)) (by simp [hp])
    (fun i η => ∃ s, η = [some (.int m), some (.lst true ((pairsTo m i).map enc)), s, none]) ⟨none, by simp [pairsTo]⟩ (by
      rintro i u η hi ⟨s, rfl⟩
      obtain ⟨hil, rfl⟩ : i < m ∧ i = u := by
        obtain ⟨h1, h2⟩ := List.getElem?_eq_some_iff.mp hi
        simp at h1 h2
        exact ⟨h1, h2⟩
      refine ⟨[some (.int m), some (.lst true ((pairsTo m i).map enc)), some (.int i), none], [some (.int m), some (.lst true ((pairsTo m (i + 1)).map enc)), some (.int i), none], by simp, .inl ?_, _, rfl⟩
      have l1 : evE C (.lc (.tup [.slot 2, .slot 3]) (.s 3) (.rng [.bin .Add (.slot 2) (.cst (.int 1)), .slot 0]) [] [3]) [some (.int m), some (.lst true ((pairsTo m i).map enc)), some (.int i), none] =
          .ok (.v (.lst true ((rowP m i).map enc)), [some (.int m), some (.lst true ((pairsTo m i).map enc)), some (.int i), none]) := by
        rw [lc_map enc (fun v : Nat => (enc ((i, v) : Pr) : T)) (List.range' (i + 1) (m - (i + 1))) (η1 := [some (.int m), some (.lst true ((pairsTo m i).map enc)), some (.int i), none])]
        · simp [rowP]
        · refine it_rng2 (n := i + 1) (m := m) ?_ (by omega) (by omega)
          simp
        · simp [plainSl, hp]
        · rw [List.length_range']; simp only [sizeL]; omega
        · intro v _
          simp [turnL]
          rfl
      have hlen := pairs_len m i
      have hlr : (rowP m i).length ≤ m := by simp [rowP]
      have hmul : i * m ≤ 30 * 30 := Nat.mul_le_mul (by omega) hm
      have hx : bmT .extend (.lst true ((pairsTo m i).map enc)) [.lst true ((rowP m i).map enc)] = some (.non, .lst true ((pairsTo m (i + 1)).map enc)) := by
        simp only [bmT, fzs_encS, Bool.and_true]
        rw [if_pos (by rw [decide_eq_true_eq, List.length_map, List.length_map]; simp only [sizeL]; omega)]
        congr 3
        rw [← List.map_append]
        congr 1
        unfold pairsTo
        rw [List.range_succ, List.flatMap_append]
        simp
      have hck : ∀ η : Env, η[1]? = some (some (.lst true ((pairsTo m i).map enc))) → chkB .extend (.pl 1 []) η = true := fun η h => by simp only [chkB, kind_pl, get_nil, h, fl_lst, if_true]
      simp [evLc, hck, l1, bmGo, bmW, hx])
  subst e
  refine evF_eq (η' := [some (.int m), some (.lst false ((pairsM m).map enc)), s, none]) ?_ (outs_nil _)
  simp [hp]
  rw [h2]
  simp [pairsM]
/-- a drawn row of all things -/
def SMix (f : FS) : Prop := ∀ (h : T) (m : Nat), HandOk h → 1 ≤ m → m ≤ 30 → ∃ (row : List Nat) (h' : T), f [h, .int m] = .ok (.lst true (row.map enc), [some h']) ∧ row.Perm (List.range m) ∧ HandOk h'
theorem callF_draw {f : FS} (hf : SDraw f) {h : T} {m : Nat} {η : Env} (k : HandOk h) (h1 : 1 ≤ m) (h2 : m ≤ 1000000) (i : Nat) (hη : η[i]? = some (some h)) : ∃ (r : Nat) (h' : T), callF f [true] [.pl i [], .v (.int m)] η = .ok (.v (.int r), (η.set i none).set i (some h')) ∧ r < m ∧ HandOk h' := by
  obtain ⟨r, h', e, q, k'⟩ := hf h m k h1 h2
  refine ⟨r, h', ?_, q, k'⟩
  unfold callF
  simp [hη, k.fl, e]
theorem eraseIdx_mapE {α β : Type} (f : α → β) : ∀ (l : List α) (i : Nat), (l.map f).eraseIdx i = (l.eraseIdx i).map f
  | [], i => by simp
  | a :: l, 0 => rfl
  | a :: l, i + 1 => by simp [eraseIdx_mapE f l i]
theorem eraseIdx_perm {α : Type} : ∀ (l : List α) (i : Nat) (h : i < l.length), (l[i] :: l.eraseIdx i).Perm l
  | [], i, h => by simp at h
  | a :: l, 0, _ => by simp
  | a :: l, i + 1, h => by
    have := eraseIdx_perm l i (by simpa using h)
    simp only [List.getElem_cons_succ, List.eraseIdx_cons_succ]
    exact (List.Perm.swap _ _ _).trans (this.cons a)
theorem r_law_mixed {f28 : Nat} (hp : C.pin = [0]) (hio : C.io f28 = [true]) (h28 : SDraw (C.fs f28)) : SMix (evF C [true] 4 [.asg false (.s 2) (.bf .lrg [.slot 1]), .ret (.lc (.bm .pop (.slot 2) [.call f28 [.slot 0, .bf .len [.slot 2]]]) (.s 3) (.rng [.slot 1]) [] [3])]) := fun h m k hm1 hm2 => by
  have hlr : bfT .lrg [.int m] = some (.lst true ((List.range m).map enc)) := by
    simp only [bfT]
    rw [if_pos (by omega)]
    simp only [Int.toNat_natCast]
    rfl
  obtain ⟨η', acc', e1, h', left, row, rfl, rfl, hpm, hlen, k'⟩ := lcL_run (f := turnL C (.bm .pop (.slot 2) [.call f28 [.slot 0, .bf .len [.slot 2]]]) (.s 3) [] [3]) ((List.range m).map enc)
    (fun i η acc => ∃ (h' : T) (left row : List Nat), η = [some h', some (.int m), some (.lst true (left.map enc)), none] ∧ acc = row.map enc ∧ (row ++ left).Perm (List.range m) ∧ row.length = i ∧ HandOk h')
    (η := [some h, some (.int m), some (.lst true ((List.range m).map enc)), none]) (acc := []) ⟨h, List.range m, [], rfl, rfl, by simp, rfl, k⟩ (by simp [sizeL]; omega) (by
      rintro i t η acc hi ⟨h', left, row, rfl, rfl, hpm, hlen, k'⟩
      have hi' : i < m := by
        have := (List.getElem?_eq_some_iff.mp hi).1
        simpa using this
      have hl1 : row.length + left.length = m := by
        have := hpm.length_eq
        simpa using this
      have hll : 1 ≤ left.length := by omega
      obtain ⟨r, h'', e, q, k''⟩ := callF_draw (f := C.fs f28) h28 (m := left.length) (η := [some h', some (.int m), some (.lst true (left.map enc)), some t]) k' hll (by omega) 0 rfl
      have hge : left[r]? = some left[r] := List.getElem?_eq_getElem q
      have hpop : bmT .pop (.lst true (left.map enc)) [.int r] = some (.int left[r], .lst true ((left.eraseIdx r).map enc)) := by
        have : idxOf (left.map enc).length (r : Int) = some r := idx_nat (by simpa using q)
        simp only [bmT, this]
        rw [List.getElem?_map, hge]
        simp [eraseIdx_mapE]
      have hck : ∀ η : Env, η[2]? = some (some (.lst true (left.map enc))) → chkB .pop (.pl 2 []) η = true := fun η h => by simp only [chkB, kind_pl, get_nil, h, fl_lst, if_true]
      refine ⟨some (.int left[r]), [some h'', some (.int m), some (.lst true ((left.eraseIdx r).map enc)), none], ?_, h'', left.eraseIdx r, row ++ [left[r]], rfl, by simp, ?_, by simp [hlen], k''⟩
      · simp at e
        simp [turnL, evLc, hck, k'.fl, hio, e, bmGo, bmW, hpop]
      · have hp1 : (left[r] :: left.eraseIdx r).Perm left := eraseIdx_perm left r q
        have : (row ++ [left[r]] ++ left.eraseIdx r).Perm (row ++ left) := by
          rw [List.append_assoc]
          exact List.Perm.append_left row hp1
        exact this.trans hpm)
  rw [List.length_map, List.length_range] at hlen
  have hl1 : row.length + left.length = m := by
    have := hpm.length_eq
    simpa using this
  have hl0 : left = [] := List.length_eq_zero_iff.mp (by omega)
  subst hl0
  rw [List.append_nil] at hpm
  refine ⟨row, h', ?_, hpm, k'⟩
  refine evF_eq (η' := [some h', some (.int m), some (.lst true []), none]) ?_ rfl
  have l1 : evE C (.lc (.bm .pop (.slot 2) [.call f28 [.slot 0, .bf .len [.slot 2]]]) (.s 3) (.rng [.slot 1]) [] [3]) [some h, some (.int m), some (.lst true ((List.range m).map enc)), none] = .ok (.v (.lst true (row.map enc)), [some h', some (.int m), some (.lst true []), none]) := by
    rw [lc_eq, it_rng1 (n := m) (o := .v (.int m)) (η1 := [some h, some (.int m), some (.lst true ((List.range m).map enc)), none]) (by simp) (by simp) (by omega)]
    simp only [rb_ok]
    rw [if_pos (by simp [plainSl, hp])]
    simp only [wipe_nil, wipe_cons, List.set_cons_succ, List.set_cons_zero, e1]
    simp
  simp [hlr, hp, l1]
end
end TV
/-! drawn arrows, led pairs, turns -/
namespace TV
open PySem L2
open Enc (enc)
/-- the arrow of a pair of places in a row -/
def atRow (row : List Nat) (p : Pr) : Pr := (row.getD p.1 0, row.getD p.2 0)
theorem getD_mem {row : List Nat} {i : Nat} (h : i < row.length) : row.getD i 0 = row[i] := by
  rw [List.getD_eq_getElem?_getD, List.getElem?_eq_getElem h]; rfl
theorem drawn_arr {m : Nat} {row : List Nat} {sel : List Pr} (hm : m ≤ 30) (hr : row.Perm (List.range m)) (hs : ∀ p ∈ sel, p.1 < p.2 ∧ p.2 < m) (hn : sel.Nodup) (hl : sel.length ≤ 1000) : Arr m (srt (sel.map (atRow row))) ∧ Acyc (srt (sel.map (atRow row))) := by
  have hlen : row.length = m := by have := hr.length_eq; simpa using this
  have hnd : row.Nodup := hr.nodup_iff.mpr List.nodup_range
  have hlt : ∀ (i : Nat) (h : i < row.length), row[i] < m := fun i h => List.mem_range.mp (hr.mem_iff.mp (List.getElem_mem h))
  have hij : ∀ i j, i < m → j < m → row.getD i 0 = row.getD j 0 → i = j := fun i j hi hj e => by
    rw [getD_mem (by omega), getD_mem (by omega)] at e
    exact (List.getElem_inj hnd).mp e
  have hap : Apart (sel.map (atRow row)) := by
    unfold Apart
    rw [List.pairwise_map]
    refine (List.Pairwise.and_mem.mp hn).imp fun {p q} ⟨hp, hq, hne⟩ => ?_
    obtain ⟨p1, p2⟩ := hs p hp
    obtain ⟨q1, q2⟩ := hs q hq
    refine ⟨fun e => hne ?_, fun e => ?_⟩
    · simp only [atRow, Prod.mk.injEq] at e
      exact Prod.ext (hij _ _ (by omega) (by omega) e.1) (hij _ _ (by omega) (by omega) e.2)
    · simp only [atRow, Prod.mk.injEq] at e
      have e1 := hij _ _ (by omega) (by omega) e.1
      have e2 := hij _ _ (by omega) (by omega) e.2
      omega
  have hap' : Apart (srt (sel.map (atRow row))) := hap.perm (srt_perm _).symm fun {p q} ⟨e1, e2⟩ => ⟨Ne.symm e1, fun z => e2 (by rw [z])⟩
  have hmem : ∀ q ∈ srt (sel.map (atRow row)), ∃ p ∈ sel, atRow row p = q := fun q hq => List.mem_map.mp (mem_srt.mp hq)
  refine ⟨⟨fun q hq => ?_, strict_of (srt_sorted _) (hap'.imp fun e => e.1), hap', by rw [srt_len, List.length_map]; exact hl⟩, fun v => row.idxOf v, fun q hq => ?_⟩
  · obtain ⟨p, hp, rfl⟩ := hmem q hq
    obtain ⟨p1, p2⟩ := hs p hp
    refine ⟨?_, ?_, fun e => ?_⟩
    · show row.getD p.1 0 < m
      rw [getD_mem (by omega)]; exact hlt _ _
    · show row.getD p.2 0 < m
      rw [getD_mem (by omega)]; exact hlt _ _
    · have := hij _ _ (by omega) (by omega) e
      omega
  · obtain ⟨p, hp, rfl⟩ := hmem q hq
    obtain ⟨p1, p2⟩ := hs p hp
    show row.idxOf (row.getD p.1 0) < row.idxOf (row.getD p.2 0)
    rw [getD_mem (by omega), getD_mem (by omega), hnd.idxOf_getElem, hnd.idxOf_getElem]
    exact p1
section
variable {C : Ctx}
def SArrows (f : FS) : Prop := ∀ (h : T) (m r : Nat), HandOk h → 1 ≤ m → m ≤ 30 → 1 ≤ r → r ≤ 1000 → ∃ (as : List Pr) (h' : T), f [h, .int m, .int r] = .ok (.tup (as.map enc), [some h']) ∧ Arr m as ∧ Acyc as ∧ HandOk h'
theorem r_law_arrows {f28 f29 f30 : Nat} (hp : C.pin = [0]) (hio : C.io f28 = [true]) (h28 : SDraw (C.fs f28)) (h29 : Fn C f29 SPairs) (hio2 : C.io f30 = [true]) (h30 : SMix (C.fs f30)) : SArrows (evF C [true] 7 [.asg false (.s 3) (.call f30 [.slot 0, .slot 1]), .asg false (.s 4) (.lst []), .for_ (.t [.s 5, .s 6]) (.val (.call f29 [.slot 1])) [.ife (.cmp .Eq (.call f28 [.slot 0, .slot 2]) (.cst (.int 0))) [.expr (.bm .append (.slot 4) [.tup [.idx (.slot 3) (.slot 5), .idx (.slot 3) (.slot 6)]])] []], .ret (.bf .tuple [.bf .sorted [.slot 4]])]) := fun h m r k hm1 hm2 hr1 hr2 => by
  obtain ⟨row, h1, e1, hperm, k1⟩ := h30 h m k hm1 hm2
  have hlen : row.length = m := by have := hperm.length_eq; simpa using this
  have e2 := h29.sp m hm2
  have hpl := pairs_len m m
  have hmm : m * m ≤ 30 * 30 := Nat.mul_le_mul hm2 hm2
  obtain ⟨η', h2, h', sel, s5, s6, e3, hsub, k'⟩ := for_run (C := C) (tg := .t [.s 5, .s 6]) (it := .val (.call f29 [.slot 1])) (b := [.ife (.cmp .Eq (.call f28 [.slot 0, .slot 2]) (.cst (.int 0))) [.expr (.bm .append (.slot 4) [.tup [.idx (.slot 3) (.slot 5), .idx (.slot 3) (.slot 6)]])] []])
    (η := [some h1, some (.int m), some (.int r), some (.lst true (row.map enc)), some (.lst true []), none, none]) (η1 := [some h1, some (.int m), some (.int r), some (.lst true (row.map enc)), some (.lst true []), none, none]) enc (pairsM m) (by simp [h29.io, callF, e2]) (by simp [hp, FT.slots, slotsF])
    (fun i η => ∃ (h' : T) (sel : List Pr) (s5 s6 : Option T), η = [some h', some (.int m), some (.int r), some (.lst true (row.map enc)), some (.lst true ((sel.map (atRow row)).map enc)), s5, s6] ∧ sel.Sublist ((pairsM m).take i) ∧ HandOk h') ⟨h1, [], none, none, rfl, by simp, k1⟩ (by
      rintro i p η hi ⟨h', sel, s5, s6, rfl, hsub, k'⟩
      have hpm := mem_pairsM.mp (List.mem_of_getElem? hi)
      obtain ⟨d, h'', ed, hd, k''⟩ := callF_draw (f := C.fs f28) h28 (m := r) (η := [some h', some (.int m), some (.int r), some (.lst true (row.map enc)), some (.lst true ((sel.map (atRow row)).map enc)), some (.int p.1), some (.int p.2)]) k' hr1 (by omega) 0 rfl
      simp only [List.set_cons_zero] at ed
      have c1 : childOf (.lst true (row.map enc)) (.int p.1) = some p.1 := child_lst (by simp; omega)
      have c2 : childOf (.lst true (row.map enc)) (.int p.2) = some p.2 := child_lst (by simp; omega)
      have x1 : (row.map enc)[p.1]? = some (.int (row.getD p.1 0)) := by
        rw [List.getElem?_map, List.getElem?_eq_getElem (by omega), getD_mem (by omega)]; rfl
      have x2 : (row.map enc)[p.2]? = some (.int (row.getD p.2 0)) := by
        rw [List.getElem?_map, List.getElem?_eq_getElem (by omega), getD_mem (by omega)]; rfl
      have htk : (pairsM m).take (i + 1) = (pairsM m).take i ++ [p] := by rw [List.take_add_one, hi, Option.toList_some]
      by_cases hz : d = 0
      · refine ⟨[some h', some (.int m), some (.int r), some (.lst true (row.map enc)), some (.lst true ((sel.map (atRow row)).map enc)), some (.int p.1), some (.int p.2)],
          [some h'', some (.int m), some (.int r), some (.lst true (row.map enc)), some (.lst true (((sel ++ [p]).map (atRow row)).map enc)), some (.int p.1), some (.int p.2)], by simp, .inl ?_, h'', sel ++ [p], _, _, rfl, by rw [htk]; exact hsub.append (List.Sublist.refl _), k''⟩
        have hsl : sel.length ≤ 900 := by
          have := hsub.length_le
          rw [List.length_take] at this
          unfold pairsM at this; omega
        have hap : bmT .append (.lst true ((sel.map (atRow row)).map enc)) [.tup [.int (row.getD p.1 0), .int (row.getD p.2 0)]] = some (.non, .lst true (((sel ++ [p]).map (atRow row)).map enc)) := by
          simp only [bmT]
          rw [if_pos (by rw [List.length_map, List.length_map]; simp only [sizeL]; omega)]
          simp only [List.map_append, List.map_cons, List.map_nil]
          rfl
        have hck : ∀ (s0 : Option T), chkB .append (.pl 4 []) [s0, some (.int m), some (.int r), some (.lst true (row.map enc)), some (.lst true ((sel.map (atRow row)).map enc)), some (.int p.1), some (.int p.2)] = true := fun _ => rfl
        obtain ⟨M, hM⟩ : ∃ M, M = sel.map (atRow row) := ⟨_, rfl⟩
        obtain ⟨M', hM'⟩ : ∃ M, M = (sel ++ [p]).map (atRow row) := ⟨_, rfl⟩
        rw [← hM] at hap ed hck ⊢
        rw [← hM'] at hap ⊢
        obtain ⟨y1, hy1⟩ : ∃ y, y = row.getD p.1 0 := ⟨_, rfl⟩
        obtain ⟨y2, hy2⟩ : ∃ y, y = row.getD p.2 0 := ⟨_, rfl⟩
        rw [← hy1, ← hy2] at hap
        rw [← hy1] at x1
        rw [← hy2] at x2
        simp [k'.fl, hio, ed, hz, evLc, hck, idxE, c1, c2, x1, x2, bmGo, bmW, hap]
      · refine ⟨[some h', some (.int m), some (.int r), some (.lst true (row.map enc)), some (.lst true ((sel.map (atRow row)).map enc)), some (.int p.1), some (.int p.2)],
          [some h'', some (.int m), some (.int r), some (.lst true (row.map enc)), some (.lst true ((sel.map (atRow row)).map enc)), some (.int p.1), some (.int p.2)], by simp, .inl ?_, h'', sel, _, _, rfl, by rw [htk]; exact hsub.trans (List.sublist_append_left _ _), k''⟩
        obtain ⟨M, hM⟩ : ∃ M, M = sel.map (atRow row) := ⟨_, rfl⟩
        rw [← hM] at ed ⊢
        simp [k'.fl, hio, ed, hz])
  rw [List.take_of_length_le (Nat.le_refl _)] at hsub
  subst e3
  have hsl : sel.length ≤ 1000 := by
    have := hsub.length_le
    unfold pairsM at this; omega
  obtain ⟨ha, hac⟩ := drawn_arr (m := m) (row := row) (sel := sel) hm2 hperm (fun p hp' => mem_pairsM.mp (hsub.subset hp')) ((pairs_nodup m m).sublist hsub) hsl
  refine ⟨srt (sel.map (atRow row)), h', ?_, ha, hac, k'⟩
  have hs : bfT .sorted [.lst true ((sel.map (atRow row)).map enc)] = some (.lst true ((srt (sel.map (atRow row))).map enc)) := f_sortP (α := Nat) (β := Nat) (by decide) _ rfl
  obtain ⟨M, hM⟩ : ∃ M, M = sel.map (atRow row) := ⟨_, rfl⟩
  rw [← hM] at hs h2 ⊢
  refine evF_eq (η' := [some h', some (.int m), some (.int r), some (.lst true (row.map enc)), some (.lst true (M.map enc)), s5, s6]) ?_ rfl
  have ec : callF (C.fs f30) [true] [.pl 0 [], .v (.int m)] [some h, some (.int m), some (.int r), none, none, none, none] = .ok (.v (.lst true (row.map enc)), [some h1, some (.int m), some (.int r), none, none, none, none]) := by
    unfold callF
    simp [k.fl, e1]
  simp [k.fl, hio2, ec, hp]
  rw [h2]
  simp [hs]
/-- the law's own led pairs -/
def SLLed (f : FS) : Prop := ∀ as l : List Pr, as.length ≤ 1000 → f [.tup (as.map enc), .tup (l.map enc)] = .ok (.tup ((ledP as l).map enc), [])
theorem r_law_led (hp : C.pin = []) : SLLed (evF C [] 4 [.ret (.bf .tuple [.bf .sorted [.lc (.ife (.cmp .In (.tup [.slot 2, .slot 3]) (.slot 1)) (.tup [.slot 3, .slot 2]) (.tup [.slot 2, .slot 3])) (.t [.s 2, .s 3]) (.val (.slot 0)) [] [2, 3]]])]) := fun as l hl => by
  obtain ⟨M, hM⟩ : ∃ M, M = as.map fun p => if p ∈ l then (p.2, p.1) else p := ⟨_, rfl⟩
  refine evF_eq (η' := [some (.tup (as.map enc)), some (.tup (l.map enc)), none, none]) ?_ (outs_nil _)
  have l2 : evE C (.lc (.ife (.cmp .In (.tup [.slot 2, .slot 3]) (.slot 1)) (.tup [.slot 3, .slot 2]) (.tup [.slot 2, .slot 3])) (.t [.s 2, .s 3]) (.val (.slot 0)) [] [2, 3]) [some (.tup (as.map enc)), some (.tup (l.map enc)), none, none] =
      .ok (.v (.lst true (M.map enc)), [some (.tup (as.map enc)), some (.tup (l.map enc)), none, none]) := by
    rw [lc_map enc (fun p : Pr => enc (if p ∈ l then (p.2, p.1) else p)) as (η1 := [some (.tup (as.map enc)), some (.tup (l.map enc)), none, none])]
    · simp [hM]
    · simp
    · simp [plainSl, hp]
    · simp only [sizeL]; omega
    · intro p _
      have e : cmpT .In (.tup [.int p.1, .int p.2]) (.tup (l.map enc)) = some (.bl (decide (p ∈ l))) := (c_inT (α := Pr) (by decide) p l).trans (by congr)
      by_cases h : p ∈ l
      · simp [turnL, e, h] <;> rfl
      · simp [turnL, e, h] <;> rfl
  have hs : bfT .sorted [.lst true (M.map enc)] = some (.lst true ((srt M).map enc)) := f_sortP (α := Nat) (β := Nat) (by decide) M rfl
  simp [l2, hs]
  rw [hM]; rfl
def SFlip (f : FS) : Prop := ∀ (l : List Pr) (a : Pr), l.length ≤ 1000 → f [.tup (l.map enc), enc a] = .ok (.tup ((flipP l a).map enc), [])
theorem r_law_flip (hp : C.pin = []) : SFlip (evF C [] 3 [.ret (.bf .tuple [.bf .sorted [.bin .Add (.lc (.slot 2) (.s 2) (.val (.slot 0)) [.cmp .NotEq (.slot 2) (.slot 1)] [2]) (.bin .Mult (.lst [.slot 1]) (.bf .int [.cmp .NotIn (.slot 1) (.slot 0)]))]])]) := fun l a hl => by
  obtain ⟨M, hM⟩ : ∃ M, M = l.filter fun p => decide (p ≠ a) := ⟨_, rfl⟩
  have hMl : M.length ≤ 1000 := by rw [hM]; exact Nat.le_trans (List.length_filter_le _ _) hl
  refine evF_eq (η' := [some (.tup (l.map enc)), some (enc a), none]) ?_ (outs_nil _)
  have l1 : evE C (.lc (.slot 2) (.s 2) (.val (.slot 0)) [.cmp .NotEq (.slot 2) (.slot 1)] [2]) [some (.tup (l.map enc)), some (enc a), none] = .ok (.v (.lst true (M.map enc)), [some (.tup (l.map enc)), some (enc a), none]) := by
    rw [lc_filter enc enc (fun p : Pr => decide (p ≠ a)) l (η1 := [some (.tup (l.map enc)), some (enc a), none])]
    · rw [← hM]; simp
    · simp
    · simp [plainSl, hp]
    · simp only [sizeL]; omega
    · intro p _
      by_cases e : p = a <;> simp [turnL, c_neE (α := Pr) (by decide), e]
  have hnin : cmpT .NotIn (enc a) (.tup (l.map enc)) = some (.bl (!decide (a ∈ l))) := (c_ninT (α := Pr) (by decide) a l).trans (by congr)
  obtain ⟨R, hR⟩ : ∃ R, R = M ++ (if a ∈ l then [] else [a]) := ⟨_, rfl⟩
  have hs : bfT .sorted [.lst true (R.map enc)] = some (.lst true ((srt R).map enc)) := f_sortP (α := Nat) (β := Nat) (by decide) R rfl
  have hfl : flipP l a = srt R := by rw [hR, hM]; rfl
  have hmul : ∀ b : Bool, binT .Mult (.lst true [enc a]) (.int (if b then 1 else 0)) = some (.lst true (if b then [enc a] else [])) := fun b => by cases b <;> rfl
  have hadd : ∀ b : Bool, b = !decide (a ∈ l) → binT .Add (.lst true (M.map enc)) (.lst true (if b then [enc a] else [])) = some (.lst true (R.map enc)) := fun b hb => by
    simp only [binT]
    rw [if_pos (by rw [List.length_map]; split <;> simp only [sizeL, List.length_cons, List.length_nil] <;> omega)]
    congr 2
    rw [hR, List.map_append, hb]
    by_cases e : a ∈ l <;> simp [e]
  rw [hfl]
  have hm' := hmul (!decide (a ∈ l))
  have ha' := hadd _ rfl
  have hf2 : fzs (if (!decide (a ∈ l)) = true then [enc a] else []) = true := by split <;> simp
  simp only [x_B, x_ret, x_bf, x_cons, x_nil, x_bin]
  by_cases e : a ∈ l
  · simp [e] at hm' ha'
    simp [l1, hnin, e, hm', ha', hs]
  · simp [e] at hm' ha'
    simp [l1, hnin, e, hm', ha', hs]
end
end TV
/-! the law's own striking; standings drawn -/
namespace TV
open PySem L2
open Enc (enc)
theorem erase_last {l : List Nat} {x : Nat} (h : (l ++ [x]).Nodup) : (l ++ [x]).erase x = l := by
  have hx : x ∉ l := fun z => (List.nodup_append.mp h).2.2 x z x (by simp) rfl
  rw [List.erase_append_right _ hx]
  simp
theorem succs_snoc (l : List Pr) (p : Pr) (h : Nat) : succs (l ++ [p]) h = if p.1 = h then succs l h ++ [p.2] else succs l h := by
  unfold succs
  rw [List.filter_append]
  by_cases e : p.1 = h <;> simp [e]
section
variable {C : Ctx}
def ringIn : List CS := [.ife (.cmp .Eq (.slot 3) (.slot 7)) [.asgIx (.slot 2) (.slot 4) (.bin .Sub (.idx (.slot 2) (.slot 4)) (.cst (.int 1))), .ife (.cmp .Eq (.idx (.slot 2) (.slot 4)) (.cst (.int 0))) [.expr (.bm .append (.slot 5) [.slot 4])] []] []]
def ringBody : List CS := [.asg false (.s 7) (.bm .pop (.slot 5) []), .asg false (.s 6) (.bin .Add (.slot 6) (.cst (.int 1))), .for_ (.t [.s 3, .s 4]) (.val (.slot 1)) ringIn]
def hSt (m : Nat) (l : List Pr) (f : Nat → Int) (free : List Nat) (n : Nat) (s3 s4 s7 : Option T) : Env := [some (.int m), some (.tup (l.map enc)), some (.lst true (fT m f)), s3, s4, some (.lst true (free.map enc)), some (.int n), s7, none]
theorem ring_turn {m h : Nat} {p : Pr} {f : Nat → Int} {free : List Nat} {s0 s1 s6 s8 : Option T} (hv : p.2 < m) (hl : free.length ≤ 100000) :
    evB C ringIn [s0, s1, some (.lst true (fT m f)), some (.int p.1), some (.int p.2), some (.lst true (free.map enc)), s6, some (.int h), s8] =
      .nx [s0, s1, some (.lst true (fT m (if p.1 = h then (relax f free [p.2]).1 else f))), some (.int p.1), some (.int p.2), some (.lst true ((if p.1 = h then (relax f free [p.2]).2 else free).map enc)), s6, some (.int h), s8] := by
  have hc : ∀ f, childOf (.lst true (fT m f)) (.int p.2) = some p.2 := fun f => child_lst (by rw [fT_len]; exact hv)
  have hs : ∀ x, setT (.lst true (fT m f)) (.int p.2) (.int x) = some (.lst true (fT m (fun w => if w = p.2 then x else f w))) := fun x => by
    rw [set_lst (by rw [fT_len]; exact hv), fT_set]
  have hap : bmT .append (.lst true (free.map enc)) [.int p.2] = some (.non, .lst true ((free ++ [p.2]).map enc)) := by
    simp only [bmT]
    rw [if_pos (by rw [List.length_map]; simp only [sizeL]; omega)]
    simp
  have hr1 : (relax f free [p.2]).1 = fun w => if w = p.2 then f p.2 - 1 else f w := rfl
  have hr2 : (relax f free [p.2]).2 = if f p.2 - 1 = 0 then free ++ [p.2] else free := rfl
  have hck : ∀ s2, chkB .append (.pl 5 []) [s0, s1, s2, some (.int p.1), some (.int p.2), some (.lst true (free.map enc)), s6, some (.int h), s8] = true := fun _ => rfl
  rw [hr1, hr2]
  by_cases e0 : p.1 = h
  · by_cases e : f p.2 - 1 = 0
    · simp [ringIn, e0, hc, hs, fT_get hv, idxE, e, evLc, hck, bmGo, bmW, hap]
      rw [e0] at hck
      simp [hck, hap]
    · simp [ringIn, e0, hc, hs, fT_get hv, idxE, e]
  · have e0' : ¬ ((p.1 : Int) = (h : Int)) := by omega
    simp [ringIn, e0, e0']
theorem ring_body (hp : C.pin = []) {m n : Nat} {l : List Pr} {f : Nat → Int} {free D : List Nat} {s3 s4 s7 : Option T} (hm : m ≤ 1000) (hl : l.length ≤ 1000) (hb : ∀ p ∈ l, p.1 < m ∧ p.2 < m) (k : KI m l f free D) (hne : free ≠ []) :
    ∃ f' free' s3' s4' s7' h, KI m l f' free' (D ++ [h]) ∧ evB C ringBody (hSt m l f free n s3 s4 s7) = .nx (hSt m l f' free' (n + 1) s3' s4' s7') := by
  obtain ⟨init, h, rfl⟩ : ∃ init h, free = init ++ [h] := ⟨free.dropLast, free.getLast hne, (List.dropLast_concat_getLast hne).symm⟩
  have hnd := (List.nodup_append.mp k.nd).2.1
  have her := erase_last hnd
  have hfl : (init ++ [h]).length ≤ m := nodup_lt_len hnd fun x hx => k.lt x (List.mem_append.mpr (.inr hx))
  rw [List.length_append, List.length_singleton] at hfl
  have hpop : bmT .pop (.lst true ((init ++ [h]).map enc)) [] = some (.int h, .lst true (init.map enc)) := by
    have hx : idxOf ((init ++ [h]).map enc).length (-1) = some init.length := by
      unfold idxOf ixN
      rw [if_neg (by decide)]
      rw [if_pos (by simp only [List.length_map, List.length_append, List.length_singleton]; omega)]
      simp only [List.length_map, List.length_append, List.length_singleton]
      congr 1; omega
    simp only [bmT, hx]
    rw [List.getElem?_map]
    simp [eraseIdx_mapE, List.eraseIdx_append_of_length_le]
  obtain ⟨η', h2, s3', s4', e⟩ := for_run (C := C) (tg := .t [.s 3, .s 4]) (it := .val (.slot 1)) (b := ringIn)
    (η := hSt m l f init (n + 1) s3 s4 (some (.int h))) (η1 := hSt m l f init (n + 1) s3 s4 (some (.int h))) enc l (by simp [hSt]) (by simp [hp])
    (fun i η => ∃ s3 s4, η = hSt m l (relax f init (succs (l.take i) h)).1 (relax f init (succs (l.take i) h)).2 (n + 1) s3 s4 (some (.int h))) ⟨s3, s4, by simp [succs, relax]⟩ (by
      rintro i p η hi ⟨s3, s4, rfl⟩
      have hpm := (hb p (List.mem_of_getElem? hi)).2
      have hle := relax_len (succs (l.take i) h) f init
      have hsl : (succs (l.take i) h).length ≤ 1000 := by
        unfold succs
        rw [List.length_map]
        exact Nat.le_trans (List.length_filter_le _ _) (by rw [List.length_take]; omega)
      refine ⟨_, _, ?_, .inl (ring_turn (C := C) (m := m) (h := h) (p := p) (f := (relax f init (succs (l.take i) h)).1) (free := (relax f init (succs (l.take i) h)).2) (s0 := some (.int m)) (s1 := some (.tup (l.map enc))) (s6 := some (.int (n + 1))) (s8 := none) hpm (by omega)), some (.int p.1), some (.int p.2), ?_⟩
      · simp [hSt]
      · rw [List.take_add_one, hi, Option.toList_some, succs_snoc]
        by_cases e : p.1 = h
        · simp only [e, if_true]; rw [relax_snoc]; rfl
        · simp only [e, if_false] <;> rfl)
  rw [List.take_of_length_le (Nat.le_refl _)] at e
  subst e
  have kk := k.step (fun p hp => (hb p hp).2) (h := h) (by simp) (vs := succs l h) (fun v => rfl)
  rw [her] at kk
  refine ⟨_, _, s3', s4', some (.int h), h, kk, ?_⟩
  have hck : ∀ η : Env, η[5]? = some (some (.lst true ((init ++ [h]).map enc))) → chkB .pop (.pl 5 []) η = true := fun η h => by simp only [chkB, kind_pl, get_nil, h, fl_lst, if_true]
  have h2' : evS C (.for_ (.t [.s 3, .s 4]) (.val (.slot 1)) ringIn) [some (.int m), some (.tup (l.map enc)), some (.lst true (fT m f)), s3, s4, some (.lst true (init.map enc)), some (.int ((n : Int) + 1)), some (.int h), none] = .nx (hSt m l (relax f init (succs l h)).1 (relax f init (succs l h)).2 (n + 1) s3' s4' (some (.int h))) := h2
  obtain ⟨fr, hfr⟩ : ∃ fr, fr = init ++ [h] := ⟨_, rfl⟩
  rw [← hfr] at hpop hck ⊢
  simp [ringBody, hSt, hp, evLc, hck, bmGo, bmW, hpop]
  rw [h2']
  simp [hSt]
def SRingL (f : FS) : Prop := ∀ (m : Nat) (l : List Pr), m ≤ 1000 → l.length ≤ 1000 → (∀ p ∈ l, p.1 < m ∧ p.2 < m) → ∃ k : Bool, f [.int m, .tup (l.map enc)] = .ok (.bl k, []) ∧ (k = false ↔ Acyc l)
theorem r_law_has_ring (hp : C.pin = []) : SRingL (evF C [] 9 [.asg false (.s 2) (.bin .Mult (.lst [.cst (.int 0)]) (.slot 0)), .for_ (.t [.s 3, .s 4]) (.val (.slot 1)) [.asgIx (.slot 2) (.slot 4) (.bin .Add (.idx (.slot 2) (.slot 4)) (.cst (.int 1)))], .asg false (.s 5) (.lc (.slot 8) (.s 8) (.rng [.slot 0]) [.cmp .Eq (.idx (.slot 2) (.slot 8)) (.cst (.int 0))] [8]), .asg false (.s 6) (.cst (.int 0)),
    .whl (.cmp .NotEq (.slot 5) (.lst [])) ringBody, .ret (.cmp .Lt (.slot 6) (.slot 0))]) := fun m l hm hl hb => by
  obtain ⟨η1, h2, a3, a4, e1⟩ := for_run (C := C) (tg := .t [.s 3, .s 4]) (it := .val (.slot 1)) (b := [.asgIx (.slot 2) (.slot 4) (.bin .Add (.idx (.slot 2) (.slot 4)) (.cst (.int 1)))])
    (η := [some (.int m), some (.tup (l.map enc)), some (.lst true (fT m fun _ => 0)), none, none, none, none, none, none]) (η1 := [some (.int m), some (.tup (l.map enc)), some (.lst true (fT m fun _ => 0)), none, none, none, none, none, none]) enc l (by simp) (by simp [hp])
    (fun i η => ∃ a3 a4, η = [some (.int m), some (.tup (l.map enc)), some (.lst true (fT m fun v => cnt (l.take i) [] v)), a3, a4, none, none, none, none]) ⟨none, none, by simp [cnt]⟩ (by
      rintro i p η hi ⟨a3, a4, rfl⟩
      have hpm := (hb p (List.mem_of_getElem? hi)).2
      have hch : ∀ f, childOf (.lst true (fT m f)) (.int p.2) = some p.2 := fun f => child_lst (by rw [fT_len]; exact hpm)
      have hs : ∀ f x, setT (.lst true (fT m f)) (.int p.2) (.int x) = some (.lst true (fT m (fun w => if w = p.2 then x else f w))) := fun f x => by
        rw [set_lst (by rw [fT_len]; exact hpm), fT_set]
      refine ⟨[some (.int m), some (.tup (l.map enc)), some (.lst true (fT m fun v => cnt (l.take i) [] v)), some (.int p.1), some (.int p.2), none, none, none, none],
        [some (.int m), some (.tup (l.map enc)), some (.lst true (fT m fun v => cnt (l.take (i + 1)) [] v)), some (.int p.1), some (.int p.2), none, none, none, none], by simp, .inl ?_, _, _, rfl⟩
      have e : (fun v => ((cnt (l.take (i + 1)) [] v : Nat) : Int)) = fun w => if w = p.2 then (cnt (l.take i) [] p.2 : Int) + 1 else cnt (l.take i) [] w := by
        funext w
        rw [List.take_add_one, hi, Option.toList_some, cnt_snocL]
      rw [e]
      simp [hch, hs, fT_get hpm, idxE])
  rw [List.take_of_length_le (Nat.le_refl _)] at e1
  subst e1
  have k0 := KI.start m l
  obtain ⟨F0, hF0⟩ : ∃ F0 : Nat → Int, F0 = fun v => (cnt l [] v : Int) := ⟨_, rfl⟩
  obtain ⟨fr0, hfr0⟩ : ∃ fr0 : List Nat, fr0 = (List.range m).filter fun v => decide ((cnt l [] v : Int) = 0) := ⟨_, rfl⟩
  rw [← hF0] at h2 k0
  rw [← hfr0] at k0
  have l6 : evE C (.lc (.slot 8) (.s 8) (.rng [.slot 0]) [.cmp .Eq (.idx (.slot 2) (.slot 8)) (.cst (.int 0))] [8]) [some (.int m), some (.tup (l.map enc)), some (.lst true (fT m F0)), a3, a4, none, none, none, none] =
      .ok (.v (.lst true (fr0.map enc)), [some (.int m), some (.tup (l.map enc)), some (.lst true (fT m F0)), a3, a4, none, none, none, none]) := by
    rw [lc_filter enc enc (fun v => decide ((cnt l [] v : Int) = 0)) (List.range m) (η1 := [some (.int m), some (.tup (l.map enc)), some (.lst true (fT m F0)), a3, a4, none, none, none, none])]
    · rw [← hfr0]; simp
    · exact it_rng1 (o := .v (.int m)) (by simp) (by simp) (by omega)
    · simp [plainSl, hp]
    · simp [sizeL]; omega
    · intro v hv
      have hvm := List.mem_range.mp hv
      have hch : ∀ f, childOf (.lst true (fT m f)) (.int v) = some v := fun f => child_lst (by rw [fT_len]; exact hvm)
      by_cases e : cnt l [] v = 0 <;> simp [turnL, idxE, hch, fT_get hvm, hF0, e]
  obtain ⟨η', h3, f, D, s3, s4, s7, k, rfl⟩ := whl_run (C := C) (t := .cmp .NotEq (.slot 5) (.lst [])) (b := ringBody) (η := hSt m l F0 fr0 0 a3 a4 none)
    (fun η => ∃ f free D s3 s4 s7, η = hSt m l f free D.length s3 s4 s7 ∧ KI m l f free D)
    (fun η => ∃ f D s3 s4 s7, KI m l f [] D ∧ η = hSt m l f [] D.length s3 s4 s7)
    (fun (η : Env) => match η[6]? with | some (some (T.int n)) => (2000 - n).toNat | _ => 0)
    ⟨F0, fr0, [], a3, a4, none, rfl, k0⟩ (by simp [hSt])
    (by
      rintro η ⟨f, free, D, s3, s4, s7, rfl, k⟩
      have hne : cmpT .NotEq (.lst true (free.map enc)) (.lst true []) = some (.bl (!decide (free = []))) := c_neL (by decide) true true free []
      refine ⟨.v (.bl (!decide (free = []))), !decide (free = []), hSt m l f free D.length s3 s4 s7, by simp [hSt, hne], rfl, fun hk => ?_, fun hk => ?_⟩
      · simp only [Bool.not_eq_true', decide_eq_false_iff_not] at hk
        obtain ⟨f', free', s3', s4', s7', h, k', hbd⟩ := ring_body (C := C) hp (n := D.length) (s3 := s3) (s4 := s4) (s7 := s7) hm hl hb k hk
        have hDl : (D ++ [h]).length ≤ m := nodup_lt_len (List.nodup_append.mp k'.nd).1 fun x hx => k'.lt x (by simp only [List.mem_append] at hx ⊢; exact .inl hx)
        rw [List.length_append, List.length_singleton] at hDl
        refine ⟨_, .inl hbd, ⟨f', free', D ++ [h], s3', s4', s7', by rw [List.length_append, List.length_singleton], k'⟩, ?_⟩
        simp only [hSt, List.getElem?_cons_succ, List.getElem?_cons_zero]
        omega
      · simp only [Bool.not_eq_false', decide_eq_true_eq] at hk
        subst hk
        exact ⟨f, D, s3, s4, s7, k, rfl⟩)
  have hDl : D.length ≤ m := nodup_lt_len (List.nodup_append.mp k.nd).1 fun x hx => k.lt x (by simp only [List.mem_append]; exact .inl hx)
  refine ⟨decide (D.length < m), ?_, ?_⟩
  · refine evF_eq (η' := hSt m l f [] D.length s3 s4 s7) ?_ (outs_nil _)
    have h3' : evS C (.whl (.cmp .NotEq (.slot 5) (.lst [])) ringBody) [some (.int m), some (.tup (l.map enc)), some (.lst true (fT m F0)), a3, a4, some (.lst true (fr0.map enc)), some (.int 0), none, none] = .nx (hSt m l f [] D.length s3 s4 s7) := h3
    simp [hp, fT_zero hm]
    rw [h2]
    simp [l6]
    rw [h3']
    simp [hSt]
  · rw [decide_eq_false_iff_not]
    constructor
    · intro h
      exact k.acyc (fun p hp => (hb p hp).2) (by omega)
    · intro h
      have := k.full (fun p hp => (hb p hp).1) h
      omega
end
end TV
/-! standings drawn -/
namespace TV
open PySem L2
open Enc (enc)
section
variable {C : Ctx}
def SAlone (f : FS) : Prop := ∀ (m : Nat) (as l : List Pr), m ≤ 1000 → Arr m as → Lot as l → ∃ sel : List Pr, f [.int m, .tup (as.map enc), .tup (l.map enc)] = .ok (.lst true (sel.map enc), []) ∧ sel.length ≤ 1000 ∧ ∀ a ∈ sel, a ∈ as ∧ Acyc (ledP as (flipP l a))
theorem r_law_alone {f32 f33 f34 : Nat} (hp : C.pin = []) (h32 : Fn C f32 SLLed) (h33 : Fn C f33 SRingL) (h34 : Fn C f34 SFlip) : SAlone (evF C [] 4 [.ret (.lc (.slot 3) (.s 3) (.val (.slot 1)) [.tnot (.call f33 [.slot 0, .call f32 [.slot 1, .call f34 [.slot 2, .slot 3]]])] [3])]) := fun m as l hm ha hl => by
  have hll := Nat.le_trans (lot_len hl) ha.len
  have key : ∀ a, ∃ k : Bool, a ∈ as → C.fs f33 [.int m, .tup ((ledP as (flipP l a)).map enc)] = .ok (.bl k, []) ∧ (k = false ↔ Acyc (ledP as (flipP l a))) := fun a => by
    obtain ⟨k, h1, h2⟩ := h33.sp m (ledP as (flipP l a)) hm (by rw [ledP_len]; exact ha.len) (ledP_bound ha.ok)
    exact ⟨k, fun _ => ⟨h1, h2⟩⟩
  obtain ⟨g, hg⟩ := Classical.axiomOfChoice key
  refine ⟨as.filter fun a => !g a, ?_, Nat.le_trans (List.length_filter_le _ _) ha.len, fun a haa => ?_⟩
  · refine evF_eq (η' := [some (.int m), some (.tup (as.map enc)), some (.tup (l.map enc)), none]) ?_ (outs_nil _)
    have l1 : evE C (.lc (.slot 3) (.s 3) (.val (.slot 1)) [.tnot (.call f33 [.slot 0, .call f32 [.slot 1, .call f34 [.slot 2, .slot 3]]])] [3]) [some (.int m), some (.tup (as.map enc)), some (.tup (l.map enc)), none] =
        .ok (.v (.lst true ((as.filter fun a => !g a).map enc)), [some (.int m), some (.tup (as.map enc)), some (.tup (l.map enc)), none]) := by
      rw [lc_filter enc enc (fun a => !g a) as (η1 := [some (.int m), some (.tup (as.map enc)), some (.tup (l.map enc)), none])]
      · simp
      · simp
      · simp [plainSl, hp]
      · have := ha.len; simp only [sizeL]; omega
      · intro a haa
        have h1 := h34.sp l a hll
        have h2 := h32.sp as (flipP l a) ha.len
        obtain ⟨h3, _⟩ := hg a haa
        cases e : g a <;> rw [e] at h3 <;> simp [turnL, h32.io, h33.io, h34.io, callF, h1, h2, h3, e]
    simp [l1]
  · obtain ⟨h1, h2⟩ := List.mem_filter.mp haa
    exact ⟨h1, (hg a h1).2.mp (by simpa using h2)⟩
def SWalk (f : FS) : Prop := ∀ (h : T) (m most : Nat) (as : List Pr), HandOk h → m ≤ 1000 → Arr m as → Acyc as → most ≤ 1000 → ∃ (l : List Pr) (h' : T), f [h, .int m, .tup (as.map enc), .int most] = .ok (.tup (l.map enc), [some h']) ∧ Stand as l ∧ HandOk h'
theorem stand_nil {m : Nat} {as : List Pr} (ha : Arr m as) (hc : Acyc as) : Stand as [] := ⟨⟨by simp, .nil⟩, by rw [led_nil ha]; exact hc⟩
theorem r_law_walked {f28 f34 f35 : Nat} (hp : C.pin = [0]) (hio : C.io f28 = [true]) (h28 : SDraw (C.fs f28)) (h34 : Fn C f34 SFlip) (h35 : Fn C f35 SAlone) : SWalk (evF C [true] 7 [.asg false (.s 4) (.tup []), .for_ (.s 5) (.rng [.call f28 [.slot 0, .bin .Add (.slot 3) (.cst (.int 1))]]) [.asg false (.s 6) (.call f35 [.slot 1, .slot 2, .slot 4]), .ife (.cmp .NotEq (.slot 6) (.lst [])) [.asg false (.s 4) (.call f34 [.slot 4, .idx (.slot 6) (.call f28 [.slot 0, .bf .len [.slot 6]])])] []], .ret (.slot 4)]) := fun h m most as k hm ha hac hmost => by
  obtain ⟨d, h1, ed, hd, k1⟩ := callF_draw (f := C.fs f28) h28 (m := most + 1) (η := [some h, some (.int m), some (.tup (as.map enc)), some (.int most), some (.tup []), none, none]) k (by omega) (by omega) 0 rfl
  simp only [List.set_cons_zero] at ed
  have ed' : callF (C.fs f28) [true] [.pl 0 [], .v (.int ((most : Int) + 1))] [some h, some (.int m), some (.tup (as.map enc)), some (.int most), some (.tup []), none, none] = .ok (.v (.int d), [some h1, some (.int m), some (.tup (as.map enc)), some (.int most), some (.tup []), none, none]) := by
    have : ((most + 1 : Nat) : Int) = (most : Int) + 1 := by omega
    rw [this] at ed; exact ed
  obtain ⟨η', h2, h', l, s5, s6, e, hst, k'⟩ := for_run (C := C) (tg := .s 5) (it := .rng [.call f28 [.slot 0, .bin .Add (.slot 3) (.cst (.int 1))]]) (b := [.asg false (.s 6) (.call f35 [.slot 1, .slot 2, .slot 4]), .ife (.cmp .NotEq (.slot 6) (.lst [])) [.asg false (.s 4) (.call f34 [.slot 4, .idx (.slot 6) (.call f28 [.slot 0, .bf .len [.slot 6]])])] []])
    (η := [some h, some (.int m), some (.tup (as.map enc)), some (.int most), some (.tup []), none, none]) (η1 := [some h1, some (.int m), some (.tup (as.map enc)), some (.int most), some (.tup []), none, none]) enc (List.range d)
    (it_rng1 (o := .v (.int d)) (by simp [hio, k.fl, ed']) (by simp) (by omega)) (by simp [hp, FT.slots])
    (fun i η => ∃ (h' : T) (l : List Pr) (s5 s6 : Option T), η = [some h', some (.int m), some (.tup (as.map enc)), some (.int most), some (.tup (l.map enc)), s5, s6] ∧ Stand as l ∧ HandOk h') ⟨h1, [], none, none, rfl, stand_nil ha hac, k1⟩ (by
      rintro i u η hi ⟨h', l, s5, s6, rfl, hst, k'⟩
      obtain ⟨sel, e1, hsl, hsel⟩ := h35.sp m as l hm ha hst.lot
      have hne : cmpT .NotEq (.lst true (sel.map enc)) (.lst true []) = some (.bl (!decide (sel = []))) := c_neL (α := Pr) (by decide) true true sel []
      by_cases hz : sel = []
      · subst hz
        refine ⟨[some h', some (.int m), some (.tup (as.map enc)), some (.int most), some (.tup (l.map enc)), some (.int u), s6], [some h', some (.int m), some (.tup (as.map enc)), some (.int most), some (.tup (l.map enc)), some (.int u), some (.lst true [])], by simp, .inl ?_, h', l, _, _, rfl, hst, k'⟩
        simp at e1 hne
        simp [h35.io, callF, e1, hp, hne]
      · have hl1 : 1 ≤ sel.length := List.length_pos_iff.mpr hz
        obtain ⟨r, h'', er, hr, k''⟩ := callF_draw (f := C.fs f28) h28 (m := sel.length) (η := [some h', some (.int m), some (.tup (as.map enc)), some (.int most), some (.tup (l.map enc)), some (.int u), some (.lst true (sel.map enc))]) k' hl1 (by omega) 0 rfl
        simp only [List.set_cons_zero] at er
        obtain ⟨a1, a2⟩ := hsel sel[r] (List.getElem_mem hr)
        have hc : childOf (.lst true (sel.map enc)) (.int r) = some r := child_lst (by simpa using hr)
        have hx : (sel.map enc)[r]? = some (enc sel[r]) := by rw [List.getElem?_map, List.getElem?_eq_getElem hr]; rfl
        have hll := Nat.le_trans (lot_len hst.lot) ha.len
        have ef := h34.sp l sel[r] hll
        refine ⟨[some h', some (.int m), some (.tup (as.map enc)), some (.int most), some (.tup (l.map enc)), some (.int u), s6], [some h'', some (.int m), some (.tup (as.map enc)), some (.int most), some (.tup ((flipP l sel[r]).map enc)), some (.int u), some (.lst true (sel.map enc))], by simp, .inl ?_, h'', flipP l sel[r], _, _, rfl, ⟨flip_lot hst.lot a1, a2⟩, k''⟩
        obtain ⟨a, hae⟩ : ∃ a, a = sel[r] := ⟨_, rfl⟩
        rw [← hae] at hx ef ⊢
        have e35 : ∀ s6, callF (C.fs f35) [] [.v (.int m), .v (.tup (as.map enc)), .v (.tup (l.map enc))] [some h', some (.int m), some (.tup (as.map enc)), some (.int most), some (.tup (l.map enc)), some (.int u), s6] = .ok (.v (.lst true (sel.map enc)), [some h', some (.int m), some (.tup (as.map enc)), some (.int most), some (.tup (l.map enc)), some (.int u), s6]) := fun s6 => by
          unfold callF; simp [e1]
        have e34 : ∀ s0, callF (C.fs f34) [] [.v (.tup (l.map enc)), .v (enc a)] [s0, some (.int m), some (.tup (as.map enc)), some (.int most), some (.tup (l.map enc)), some (.int u), some (.lst true (sel.map enc))] = .ok (.v (.tup ((flipP l a).map enc)), [s0, some (.int m), some (.tup (as.map enc)), some (.int most), some (.tup (l.map enc)), some (.int u), some (.lst true (sel.map enc))]) := fun s0 => by
          unfold callF; simp [ef]
        simp [h35.io, h34.io, hio, e35, hp, hne, hz, k'.fl, er, idxE, hc, hx, e34])
  subst e
  refine ⟨l, h', ?_, hst, k'⟩
  refine evF_eq (η' := [some h', some (.int m), some (.tup (as.map enc)), some (.int most), some (.tup (l.map enc)), s5, s6]) ?_ rfl
  simp [hp]
  rw [h2]
  simp
end
end TV
/-! reaching; flags -/
namespace TV
open PySem L2
open Enc (enc)
instance : Enc Bool where
  enc b := .bl b
  lt a b := !a && b
  dp := 0
  fz _ := rfl
  pl _ := by simp [T.toD, PyData.plain]
  dep _ := by simp [T.toD, PyData.depth]
  eq a b := by cases a <;> cases b <;> rfl
  ltE a b := by simp only [ltT, T.toD, PySem.W.dataLt_bool]; cases a <;> cases b <;> rfl
  al a b := by simp [T.toD, PySem.W.alike]
  nn _ := rfl
  irr a := by cases a <;> rfl
  tr a b c := by cases a <;> cases b <;> cases c <;> simp
  co a b := by cases a <;> cases b <;> simp
@[simp] theorem enc_bool (b : Bool) : (enc b : T) = .bl b := rfl
theorem c_eqB (a b : Bool) : cmpT .Eq (.bl a) (.bl b) = some (.bl (decide (a = b))) := c_eqE (α := Bool) (by decide) a b
theorem c_neB (a b : Bool) : cmpT .NotEq (.bl a) (.bl b) = some (.bl (!decide (a = b))) := c_neE (α := Bool) (by decide) a b
/-- a loop that may answer -/
theorem forL_ret {f : T → Env → Out} (Q : T → Env → Prop) (ts : List T) (I : Nat → Env → Prop) {η : Env} (h0 : I 0 η) (hs : ∀ i t η, ts[i]? = some t → I i η → (∃ η', (f t η = .nx η' ∨ f t η = .ct η') ∧ I (i + 1) η') ∨ ∃ u η', f t η = .rt u η' ∧ Q u η') :
    (∃ η', forL f ts η = .nx η' ∧ I ts.length η') ∨ ∃ u η', forL f ts η = .rt u η' ∧ Q u η' := by
  induction ts generalizing η I with
  | nil => exact .inl ⟨η, rfl, h0⟩
  | cons t ts ih =>
    rcases hs 0 t η rfl h0 with ⟨η1, h1, i1⟩ | ⟨u, η1, h1, q⟩
    · rcases ih (fun i => I (i + 1)) i1 fun i u θ hu hi => hs (i + 1) u θ (by simpa using hu) hi with ⟨η2, h2, i2⟩ | ⟨u, η2, h2, q⟩
      · refine .inl ⟨η2, ?_, i2⟩
        unfold forL
        rcases h1 with h1 | h1 <;> rw [h1] <;> exact h2
      · refine .inr ⟨u, η2, ?_, q⟩
        unfold forL
        rcases h1 with h1 | h1 <;> rw [h1] <;> exact h2
    · refine .inr ⟨u, η1, ?_, q⟩
      unfold forL
      rw [h1]
theorem for_ret {α : Type} {C : Ctx} {tg : FT} {it : IT} {b : List CS} {η η1 : Env} (g : α → T) (xs : List α) (hit : evIt C it η = .ok (xs.map g, η1)) (hp : tg.slots.any C.pin.contains = false) (Q : T → Env → Prop) (I : Nat → Env → Prop) (h0 : I 0 η1)
    (hs : ∀ i x η, xs[i]? = some x → I i η → ∃ η₁, bindF tg (g x) η = some η₁ ∧ ((∃ η₂, (evB C b η₁ = .nx η₂ ∨ evB C b η₁ = .ct η₂) ∧ I (i + 1) η₂) ∨ ∃ u η₂, evB C b η₁ = .rt u η₂ ∧ Q u η₂)) :
    (∃ η', evS C (.for_ tg it b) η = .nx η' ∧ I xs.length η') ∨ ∃ u η', evS C (.for_ tg it b) η = .rt u η' ∧ Q u η' := by
  have := forL_ret (f := fun t η => if tg.slots.any C.pin.contains then .er else match bindF tg t η with
    | some η₁ => evB C b η₁
    | none => .er) Q (xs.map g) I h0 (fun i t η ht hi => by
      rw [List.getElem?_map] at ht
      obtain ⟨x, hx, rfl⟩ := Option.map_eq_some_iff.mp ht
      obtain ⟨η₁, h1, h2⟩ := hs i x η hx hi
      rcases h2 with ⟨η₂, h2, h3⟩ | ⟨u, η₂, h2, h3⟩
      · exact .inl ⟨η₂, by simp only [hp, h1]; exact h2, h3⟩
      · exact .inr ⟨u, η₂, by simp only [hp, h1]; exact h2, h3⟩)
  rw [List.length_map] at this
  simp only [evS, hit, ro_ok]
  exact this
/-- to reach along pairs -/
inductive Rch (ps : List Pr) (b : Nat) : Nat → Prop
  | refl : Rch ps b b
  | step {u v : Nat} : Rch ps b u → (u, v) ∈ ps → Rch ps b v
theorem Rch.trans {ps : List Pr} {a b c : Nat} (h1 : Rch ps a b) (h2 : Rch ps b c) : Rch ps a c := by
  induction h2 with
  | refl => exact h1
  | step _ hm ih => exact ih.step hm
theorem Rch.mono {ps qs : List Pr} (h : ∀ p ∈ ps, Rch qs p.1 p.2) {a b : Nat} (r : Rch ps a b) : Rch qs a b := by
  induction r with
  | refl => exact .refl
  | step _ hm ih => exact ih.trans (h _ hm)
theorem Rch.le {ps : List Pr} {r : Nat → Nat} (hr : ∀ p ∈ ps, r p.1 < r p.2) {a b : Nat} (h : Rch ps a b) : a = b ∨ r a < r b := by
  induction h with
  | refl => exact .inl rfl
  | step _ hm ih =>
    have := hr _ hm
    rcases ih with rfl | ih
    · exact .inr this
    · exact .inr (by dsimp only at this; omega)
/-- gathered things, and those still to be looked at -/
structure RI (m : Nat) (ps : List Pr) (b : Nat) (F W : List Nat) : Prop where
  nd : F.Nodup
  lt : ∀ v ∈ F, v < m
  sub : ∀ v ∈ W, v ∈ F
  wnd : W.Nodup
  rch : ∀ v ∈ F, Rch ps b v
  cl : ∀ u ∈ F, u ∉ W → ∀ v, (u, v) ∈ ps → v ∈ F
  beg : b ∈ F
theorem RI.start {m b : Nat} {ps : List Pr} (hb : b < m) : RI m ps b [b] [b] := ⟨by simp, by simpa using hb, by simp, by simp, by simp [Rch.refl], by simp, by simp⟩
theorem RI.fin {m b : Nat} {ps : List Pr} {F : List Nat} (k : RI m ps b F []) (v : Nat) : v ∈ F ↔ Rch ps b v := by
  refine ⟨k.rch v, fun h => ?_⟩
  induction h with
  | refl => exact k.beg
  | step _ hm ih => exact k.cl _ ih (by simp) _ hm
/-- the last one that waits is looked at: new are the things behind it that are not gathered -/
theorem RI.step {m b h : Nat} {ps : List Pr} {F W new : List Nat} (k : RI m ps b F (W ++ [h])) (hn : new.Nodup) (hm : ∀ v, v ∈ new ↔ (h, v) ∈ ps ∧ v ∉ F) (hb : ∀ p ∈ ps, p.2 < m) : RI m ps b (F ++ new) (W ++ new) := by
  have hhW : h ∉ W := fun z => (List.nodup_append.mp k.wnd).2.2 h z h (by simp) rfl
  refine ⟨List.nodup_append.mpr ⟨k.nd, hn, fun a ha b hb e => ((hm b).mp hb).2 (e ▸ ha)⟩, fun v hv => ?_, fun v hv => ?_, List.nodup_append.mpr ⟨(List.nodup_append.mp k.wnd).1, hn, fun a ha b hb e => ((hm b).mp hb).2 (e ▸ k.sub a (by simp [ha]))⟩, fun v hv => ?_, fun u hu hw v huv => ?_, by simp [k.beg]⟩
  · rcases List.mem_append.mp hv with h1 | h1
    · exact k.lt v h1
    · exact hb _ ((hm v).mp h1).1
  · rcases List.mem_append.mp hv with h1 | h1
    · exact List.mem_append.mpr (.inl (k.sub v (by simp [h1])))
    · exact List.mem_append.mpr (.inr h1)
  · rcases List.mem_append.mp hv with h1 | h1
    · exact k.rch v h1
    · exact (k.rch h (k.sub h (by simp))).step ((hm v).mp h1).1
  · simp only [List.mem_append, not_or] at hw
    rcases List.mem_append.mp hu with h1 | h1
    · by_cases e : u = h
      · subst e
        by_cases hvF : v ∈ F
        · exact List.mem_append.mpr (.inl hvF)
        · exact List.mem_append.mpr (.inr ((hm v).mpr ⟨huv, hvF⟩))
      · exact List.mem_append.mpr (.inl (k.cl u h1 (by simp [hw.1, e]) v huv))
    · exact absurd h1 hw.2
theorem RI.len {m b : Nat} {ps : List Pr} {F W : List Nat} (k : RI m ps b F W) : F.length ≤ m ∧ W.length ≤ m := ⟨nodup_lt_len k.nd k.lt, nodup_lt_len k.wnd fun v hv => k.lt v (k.sub v hv)⟩
/-- new things, taken one by one -/
def gather (F : List Nat) (vs : List Nat) : List Nat := vs.foldl (fun N v => if v ∈ F ++ N then N else N ++ [v]) []
theorem gather_snoc (F vs : List Nat) (v : Nat) : gather F (vs ++ [v]) = if v ∈ F ++ gather F vs then gather F vs else gather F vs ++ [v] := by
  simp only [gather, List.foldl_append, List.foldl_cons, List.foldl_nil] <;> rfl
theorem gather_spec (F : List Nat) : ∀ vs : List Nat, (gather F vs).Nodup ∧ ∀ v, v ∈ gather F vs ↔ v ∈ vs ∧ v ∉ F := by
  intro vs
  suffices h : ∀ i, (gather F (vs.take i)).Nodup ∧ ∀ v, v ∈ gather F (vs.take i) ↔ v ∈ vs.take i ∧ v ∉ F by
    have := h vs.length
    rwa [List.take_length] at this
  intro i
  induction i with
  | zero => simp [gather]
  | succ i ih =>
    rw [List.take_add_one]
    cases hi : vs[i]? with
    | none => simpa using ih
    | some u =>
    rw [Option.toList_some]
    obtain ⟨us, hus⟩ : ∃ us, us = vs.take i := ⟨_, rfl⟩
    rw [← hus] at ih ⊢
    obtain ⟨h1, h2⟩ := ih
    rw [gather_snoc]
    by_cases hu : u ∈ F ++ gather F us
    · rw [if_pos hu]
      refine ⟨h1, fun v => ?_⟩
      rw [h2, List.mem_append, List.mem_singleton]
      constructor
      · rintro ⟨a, b⟩; exact ⟨.inl a, b⟩
      · rintro ⟨a | a, b⟩
        · exact ⟨a, b⟩
        · subst a
          rcases List.mem_append.mp hu with c | c
          · exact absurd c b
          · exact (h2 v).mp c
    · rw [if_neg hu]
      rw [List.mem_append, not_or] at hu
      refine ⟨List.nodup_append.mpr ⟨h1, by simp, fun a ha b hb e => ?_⟩, fun v => ?_⟩
      · simp only [List.mem_singleton] at hb
        subst hb; subst e
        exact hu.2 ha
      · rw [List.mem_append, h2, List.mem_append, List.mem_singleton]
        constructor
        · rintro (⟨a, b⟩ | a)
          · exact ⟨.inl a, b⟩
          · subst a; exact ⟨.inr rfl, hu.1⟩
        · rintro ⟨a | a, b⟩
          · exact .inl ⟨a, b⟩
          · exact .inr a
section
variable {C : Ctx}
def dK (F : List Nat) (o : Bool) : T := dicT o (F.map fun v => (v, T.bl true))
/-- the things that are reached -/
def SReach (f : FS) : Prop := ∀ (m : Nat) (l : List Pr) (t : T) (b : Nat), SeqP t l → m ≤ 1000 → l.length ≤ 1000 → (∀ p ∈ l, p.1 < m ∧ p.2 < m) → b < m → ∃ F : List Nat, f [.int m, t, .int b] = .ok (dK F false, []) ∧ ∀ v, v ∈ F ↔ Rch l b v
def reachBody : List CS := [.for_ (.s 6) (.val (.idx (.slot 3) (.bm .pop (.slot 5) []))) [.ife (.cmp .NotIn (.slot 6) (.slot 4)) [.asgIx (.slot 4) (.slot 6) (.cst (.bl true)), .expr (.bm .append (.slot 5) [.slot 6])] []]]
def rcSt (m : Nat) (t : T) (b : Nat) (rows : List (List Nat)) (F W : List Nat) (s6 : Option T) : Env := [some (.int m), some t, some (.int b), some (rowsF rows), some (dK F true), some (.lst true (W.map enc)), s6]
theorem pop_last (W : List Nat) (h : Nat) : bmT .pop (.lst true ((W ++ [h]).map enc)) [] = some (.int h, .lst true (W.map enc)) := by
  have hx : idxOf ((W ++ [h]).map enc).length (-1) = some W.length := by
    unfold idxOf ixN
    rw [if_neg (by decide)]
    rw [if_pos (by simp only [List.length_map, List.length_append, List.length_singleton]; omega)]
    simp only [List.length_map, List.length_append, List.length_singleton]
    congr 1; omega
  simp only [bmT, hx]
  rw [List.getElem?_map]
  simp [eraseIdx_mapE, List.eraseIdx_append_of_length_le]
theorem reach_turn {v : Nat} {F W : List Nat} {s0 s1 s2 s3 : Option T} (hF : F.length ≤ 1000) (hW : W.length ≤ 1000) :
    evB C [.ife (.cmp .NotIn (.slot 6) (.slot 4)) [.asgIx (.slot 4) (.slot 6) (.cst (.bl true)), .expr (.bm .append (.slot 5) [.slot 6])] []] [s0, s1, s2, s3, some (dK F true), some (.lst true (W.map enc)), some (.int v)] =
      .nx [s0, s1, s2, s3, some (dK (if v ∈ F then F else F ++ [v]) true), some (.lst true ((if v ∈ F then W else W ++ [v]).map enc)), some (.int v)] := by
  have ef : (dK F true).fl = true := rfl
  have es : (dK F true).sh = true := dic_trues_sh _ _
  have e : cmpT .NotIn (.int v) (dK F true) = some (.bl (!decide (v ∈ F))) := nin_trues true F v
  by_cases hv : v ∈ F
  · simp [ef, es, e, hv]
  · have hset : setT (dK F true) (.int v) (.bl true) = some (dK (F ++ [v]) true) := by
      have := set_new (kv := F.map fun v => (v, T.bl true)) (a := v) (by rw [List.map_map]; simpa [Function.comp] using hv) (by rw [List.length_map]; simp only [sizeL]; omega) (.bl true)
      rw [show dK (F ++ [v]) true = dicT true ((F.map fun v => (v, T.bl true)) ++ [(v, .bl true)]) by simp [dK]]
      exact this
    have hap : bmT .append (.lst true (W.map enc)) [.int v] = some (.non, .lst true ((W ++ [v]).map enc)) := by
      simp only [bmT]
      rw [if_pos (by rw [List.length_map]; simp only [sizeL]; omega)]
      simp
    have hck : ∀ s4, chkB .append (.pl 5 []) [s0, s1, s2, s3, s4, some (.lst true (W.map enc)), some (.int v)] = true := fun _ => rfl
    obtain ⟨W', hW'⟩ : ∃ W', W' = W ++ [v] := ⟨_, rfl⟩
    rw [← hW'] at hap
    simp [ef, es, e, hv, hset, evLc, hck, bmGo, bmW, hap, ← hW']
theorem reach_body (hp : C.pin = []) {m b h : Nat} {t : T} {l : List Pr} {F W : List Nat} {s6 : Option T} (hm : m ≤ 1000) (hl : l.length ≤ 1000) (hb : ∀ p ∈ l, p.1 < m ∧ p.2 < m) (k : RI m l b F (W ++ [h])) :
    ∃ new s6', RI m l b (F ++ new) (W ++ new) ∧ evB C reachBody (rcSt m t b (rowsOf m (srt l)) F (W ++ [h]) s6) = .nx (rcSt m t b (rowsOf m (srt l)) (F ++ new) (W ++ new) s6') := by
  have hhm : h < m := k.lt h (k.sub h (by simp))
  let vs := ((srt l).filter fun p => p.1 = h).map (·.2)
  have hvm : ∀ v, v ∈ vs ↔ (h, v) ∈ l := fun v => by
    show v ∈ ((srt l).filter fun p => p.1 = h).map (·.2) ↔ _
    rw [List.mem_map]
    constructor
    · rintro ⟨p, hp', rfl⟩
      obtain ⟨h1, h2⟩ := List.mem_filter.mp hp'
      have : p.1 = h := by simpa using h2
      rw [← this]; exact mem_srt.mp h1
    · intro hv; exact ⟨(h, v), List.mem_filter.mpr ⟨mem_srt.mpr hv, by simp⟩, rfl⟩
  obtain ⟨g1, g2⟩ := gather_spec F vs
  have k' := k.step g1 (fun v => by rw [g2, hvm]) (fun p hp' => (hb p hp').2)
  obtain ⟨lF, lW⟩ := k.len
  have lW' : W.length ≤ m := by rw [List.length_append] at lW; omega
  have hrow : childOf (rowsF (rowsOf m (srt l))) (.int h) = some h := child_lst (by simpa [rowsOf_len] using hhm)
  have hrs : (rowsF (rowsOf m (srt l))).sh = true := fzs_rowF _
  have hrf : (rowsF (rowsOf m (srt l))).fl = false := rfl
  have hrk : (kidsT (rowsF (rowsOf m (srt l))))[h]? = some (rowF vs) := by
    show ((rowsOf m (srt l)).map rowF)[h]? = _
    rw [List.getElem?_map, rowsOf_get hhm]; rfl
  have hfr : ∀ r, (rowF r).frz = rowF r := fun r => by simp [rowF]
  have hsq : ∀ r, seqOf (rowF r) = some (r.map enc) := fun r => rfl
  have hck : ∀ η : Env, η[5]? = some (some (.lst true ((W ++ [h]).map enc))) → chkB .pop (.pl 5 []) η = true := fun η h => by simp only [chkB, kind_pl, get_nil, h, fl_lst, if_true]
  have hpop := pop_last W h
  obtain ⟨WW, hWW⟩ : ∃ WW, WW = W ++ [h] := ⟨_, rfl⟩
  rw [← hWW] at hpop hck
  have hvl : vs.length ≤ 1000 := by
    have := filter_len_le (srt l) h
    rw [srt_len] at this
    exact Nat.le_trans this hl
  have glen : ∀ i, (gather F (vs.take i)).length ≤ m := fun i => by
    obtain ⟨q1, q2⟩ := gather_spec F (vs.take i)
    exact nodup_lt_len q1 fun v hv => (hb _ ((hvm v).mp (List.mem_of_mem_take ((q2 v).mp hv).1))).2
  obtain ⟨η', h2, s6', e⟩ := for_run (C := C) (tg := .s 6) (it := .val (.idx (.slot 3) (.bm .pop (.slot 5) []))) (b := [.ife (.cmp .NotIn (.slot 6) (.slot 4)) [.asgIx (.slot 4) (.slot 6) (.cst (.bl true)), .expr (.bm .append (.slot 5) [.slot 6])] []])
    (η := rcSt m t b (rowsOf m (srt l)) F WW s6) (η1 := rcSt m t b (rowsOf m (srt l)) F W s6) enc vs (by
      simp [rcSt, hrf, evLc, hck, bmGo, bmW, hpop, idxE, hrs, hrow, hrk, hfr, hsq, vs]) (by simp [hp])
    (fun i η => ∃ s6, η = rcSt m t b (rowsOf m (srt l)) (F ++ gather F (vs.take i)) (W ++ gather F (vs.take i)) s6) ⟨s6, by simp [gather]⟩ (by
      rintro i v η hi ⟨s, rfl⟩
      have gl := glen i
      refine ⟨_, _, ?_, .inl (reach_turn (C := C) (v := v) (F := F ++ gather F (vs.take i)) (W := W ++ gather F (vs.take i)) (s0 := some (.int m)) (s1 := some t) (s2 := some (.int b)) (s3 := some (rowsF (rowsOf m (srt l)))) ?_ ?_), some (.int v), ?_⟩
      · simp [rcSt]
      · have := (nodup_lt_len (m := m) (l := F ++ gather F (vs.take i)) (by
          obtain ⟨q1, q2⟩ := gather_spec F (vs.take i)
          exact List.nodup_append.mpr ⟨k.nd, q1, fun a ha c hc e => ((q2 c).mp hc).2 (e ▸ ha)⟩) (fun x hx => by
          rcases List.mem_append.mp hx with z | z
          · exact k.lt x z
          · exact (hb _ ((hvm x).mp (List.mem_of_mem_take (((gather_spec F (vs.take i)).2 x).mp z).1))).2))
        omega
      · rw [List.length_append]
        have h3 : (gather F (vs.take i)).length ≤ 1000 := by omega
        have : (W ++ gather F (vs.take i)).length ≤ m := nodup_lt_len (by
          obtain ⟨q1, q2⟩ := gather_spec F (vs.take i)
          exact List.nodup_append.mpr ⟨(List.nodup_append.mp k.wnd).1, q1, fun a ha c hc e => ((q2 c).mp hc).2 (e ▸ k.sub a (by simp [ha]))⟩) (fun x hx => by
          rcases List.mem_append.mp hx with z | z
          · exact k.lt x (k.sub x (by simp [z]))
          · exact (hb _ ((hvm x).mp (List.mem_of_mem_take (((gather_spec F (vs.take i)).2 x).mp z).1))).2)
        rw [List.length_append] at this; omega
      · rw [List.take_add_one, hi, Option.toList_some, gather_snoc]
        by_cases hz : v ∈ F ++ gather F (vs.take i)
        · simp only [hz, if_true] <;> rfl
        · simp only [hz, if_false, List.append_assoc] <;> rfl)
  rw [List.take_of_length_le (Nat.le_refl _)] at e
  subst e
  refine ⟨gather F vs, s6', k', ?_⟩
  rw [← hWW]
  simp only [reachBody, x_B, h2, x_B0]
theorem r_reached {f7 : Nat} (hp : C.pin = []) (h7 : Fn C f7 SNext) : SReach (evF C [] 7 [.asg false (.s 3) (.call f7 [.slot 0, .slot 1]), .asg false (.s 4) (.dic1 (.slot 2) (.cst (.bl true))), .asg false (.s 5) (.lst [.slot 2]), .whl (.cmp .Gt (.bf .len [.slot 5]) (.cst (.int 0))) reachBody, .ret (.slot 4)]) := fun m l t b ht hm hl hb hbm => by
  obtain ⟨t1, t2, t3, t4⟩ := ht
  have hc := h7.sp m l t ⟨t1, t2, t3, t4⟩ hm hl fun p hp => (hb p hp).1
  obtain ⟨η', h2, F, s6, k, rfl⟩ := whl_run (C := C) (t := .cmp .Gt (.bf .len [.slot 5]) (.cst (.int 0))) (b := reachBody) (η := rcSt m t b (rowsOf m (srt l)) [b] [b] none)
    (fun η => ∃ F W s6, η = rcSt m t b (rowsOf m (srt l)) F W s6 ∧ RI m l b F W)
    (fun η => ∃ F s6, RI m l b F [] ∧ η = rcSt m t b (rowsOf m (srt l)) F [] s6)
    (fun (η : Env) => match η[4]?, η[5]? with | some (some (T.dic _ ks _)), some (some (T.lst _ ts)) => 2 * (2000 - ks.length) + ts.length | _, _ => 0)
    ⟨[b], [b], none, rfl, .start hbm⟩ (by simp [rcSt, dK, dicT])
    (by
      rintro η ⟨F, W, s6, rfl, k⟩
      refine ⟨.v (.bl (decide (0 < W.length))), decide (0 < W.length), rcSt m t b (rowsOf m (srt l)) F W s6, by simp [rcSt], rfl, fun hk => ?_, fun hk => ?_⟩
      · simp only [decide_eq_true_eq] at hk
        obtain ⟨W', h, rfl⟩ : ∃ W' h, W = W' ++ [h] := ⟨W.dropLast, W.getLast (by intro e; subst e; simp at hk), (List.dropLast_concat_getLast _).symm⟩
        obtain ⟨new, s6', k', hbd⟩ := reach_body (C := C) hp (t := t) (s6 := s6) hm hl hb k
        refine ⟨_, .inl hbd, ⟨F ++ new, W' ++ new, s6', rfl, k'⟩, ?_⟩
        have hFl := k'.len.1
        simp only [rcSt, dK, dicT, List.getElem?_cons_succ, List.getElem?_cons_zero, List.length_map, List.length_append, List.length_singleton] at hFl ⊢
        omega
      · simp only [decide_eq_false_iff_not] at hk
        have : W = [] := List.length_eq_zero_iff.mp (by omega)
        subst this
        exact ⟨F, s6, k, rfl⟩)
  refine ⟨F, ?_, fun v => k.fin v⟩
  refine evF_eq (η' := [some (.int m), some t, some (.int b), some (rowsF (rowsOf m (srt l))), some (dK F false), some (.lst true []), s6]) ?_ (outs_nil _)
  have hrf : ∀ r, (rowsF r).fl = false := fun _ => rfl
  have ef : (dK F true).fl = true := rfl
  have efz : (dK F true).frz = dK F false := by
    show (T.dic true _ _).frz = _
    rw [frz_dic, if_pos rfl, frzs_id]
    · rfl
    · rw [List.map_map]; exact fzs_bls (fun _ => true) F
  have h2' : evS C (.whl (.cmp .Gt (.bf .len [.slot 5]) (.cst (.int 0))) reachBody) [some (.int m), some t, some (.int b), some (rowsF (rowsOf m (srt l))), some (.dic true [.int b] [.bl true]), some (.lst true [.int b]), none] = .nx (rcSt m t b (rowsOf m (srt l)) F [] s6) := h2
  simp [h7.io, callF, hc, hp, t2, t4, keyOk, isTup]
  rw [h2']
  simp [rcSt, ef, efz]
end
end TV
/-! reaching by lists; striking by rounds -/
namespace TV
open PySem L2
open Enc (enc)
@[simp] theorem x_par {C : Ctx} {η : Env} (i j : Nat) (a b : CE) : evS C (.par i j a b) η = (evL [(pu a, fun η => evE C a η), (pu b, fun η => evE C b η)] η).out fun x => (match x.1 with
    | [oa, ob] => if C.pin.contains i || C.pin.contains j then .er else (match keepO x.2 oa with
      | some (s, η₁) => (match keepO η₁ ob with
        | some (t, η₂) => if i < η₂.length ∧ j < η₂.length then .nx ((η₂.set i (some s)).set j (some t)) else .er
        | none => .er)
      | none => .er)
    | _ => .er) := by simp only [evS] <;> rfl
/-! ### rounds -/
def trimS (s : List Nat × List Pr) : List Nat × List Pr :=
  (s.1.filter fun t => decide (t ∈ s.2.map (·.1)), s.2.filter fun p => decide (p.2 ∈ s.1.filter fun t => decide (t ∈ s.2.map (·.1))))
def stT (m : Nat) (ps : List Pr) : Nat → List Nat × List Pr
  | 0 => (List.range m, ps)
  | i + 1 => trimS (stT m ps i)
section
variable {m : Nat} {ps : List Pr}
theorem stT_sub (i : Nat) {t : Nat} (h : t ∈ (stT m ps (i + 1)).1) : t ∈ (stT m ps i).1 := (List.mem_filter.mp h).1
theorem stT_some (hb : ∀ p ∈ ps, p.1 < m ∧ p.2 < m) : ∀ (i : Nat) (p : Pr), p ∈ (stT m ps i).2 ↔ p ∈ ps ∧ p.2 ∈ (stT m ps i).1
  | 0, p => ⟨fun h => ⟨h, List.mem_range.mpr (hb p h).2⟩, fun h => h.1⟩
  | i + 1, p => by
    show p ∈ (trimS (stT m ps i)).2 ↔ p ∈ ps ∧ p.2 ∈ (trimS (stT m ps i)).1
    unfold trimS
    dsimp only
    rw [List.mem_filter, decide_eq_true_eq, stT_some hb i p]
    constructor
    · rintro ⟨⟨a, _⟩, c⟩; exact ⟨a, c⟩
    · rintro ⟨a, c⟩; exact ⟨⟨a, (List.mem_filter.mp c).1⟩, c⟩
theorem stT_left (hb : ∀ p ∈ ps, p.1 < m ∧ p.2 < m) (i t : Nat) : t ∈ (stT m ps (i + 1)).1 ↔ t ∈ (stT m ps i).1 ∧ ∃ v, (t, v) ∈ ps ∧ v ∈ (stT m ps i).1 := by
  show t ∈ (trimS (stT m ps i)).1 ↔ _
  unfold trimS
  dsimp only
  rw [List.mem_filter, decide_eq_true_eq, List.mem_map]
  constructor
  · rintro ⟨a, p, hp, rfl⟩
    obtain ⟨h1, h2⟩ := (stT_some hb i p).mp hp
    exact ⟨a, p.2, h1, h2⟩
  · rintro ⟨a, v, h1, h2⟩
    exact ⟨a, (t, v), (stT_some hb i (t, v)).mpr ⟨h1, h2⟩, rfl⟩
theorem stT_back (hb : ∀ p ∈ ps, p.1 < m ∧ p.2 < m) : ∀ (i u v : Nat), (u, v) ∈ ps → v ∈ (stT m ps i).1 → u ∈ (stT m ps (i + 1)).1
  | 0, u, v, h, hv => (stT_left hb 0 u).mpr ⟨List.mem_range.mpr (hb _ h).1, v, h, hv⟩
  | i + 1, u, v, h, hv => (stT_left hb (i + 1) u).mpr ⟨stT_back hb i u v h (stT_sub i hv), v, h, hv⟩
theorem stT_acyc (hb : ∀ p ∈ ps, p.1 < m ∧ p.2 < m) {k : Nat} (hk : (stT m ps k).2 = []) : Acyc ps := by
  refine ⟨fun t => k + 1 - (List.range (k + 1)).countP (fun i => decide (t ∈ (stT m ps i).1)), fun p hp => ?_⟩
  obtain ⟨u, v⟩ := p
  have hvk : v ∉ (stT m ps k).1 := fun z => by
    have := (stT_some hb k (u, v)).mpr ⟨hp, z⟩
    rw [hk] at this; simp at this
  have h1 : (List.range (k + 1)).countP (fun i => decide (v ∈ (stT m ps i).1)) = (List.range k).countP (fun i => decide (v ∈ (stT m ps i).1)) := by
    rw [List.range_succ, List.countP_append]
    simp [hvk]
  have h2 : (List.range (k + 1)).countP (fun i => decide (u ∈ (stT m ps i).1)) = 1 + (List.range k).countP (fun i => decide (u ∈ (stT m ps (i + 1)).1)) := by
    rw [List.range_succ_eq_map, List.countP_cons, List.countP_map]
    have : decide (u ∈ (stT m ps 0).1) = true := decide_eq_true (List.mem_range.mpr (hb _ hp).1)
    rw [if_pos this, Nat.add_comm]
    rfl
  have h3 : (List.range k).countP (fun i => decide (v ∈ (stT m ps i).1)) ≤ (List.range k).countP (fun i => decide (u ∈ (stT m ps (i + 1)).1)) :=
    List.countP_mono_left fun i _ h => decide_eq_true (stT_back hb i u v hp (of_decide_eq_true h))
  have h4 := List.countP_le_length (p := fun i => decide (u ∈ (stT m ps i).1)) (l := List.range (k + 1))
  rw [List.length_range] at h4
  dsimp only
  omega
theorem max_in (r : Nat → Nat) : ∀ {l : List Nat}, l ≠ [] → ∃ t ∈ l, ∀ v ∈ l, r v ≤ r t
  | [], h => absurd rfl h
  | [x], _ => ⟨x, by simp, by simp⟩
  | x :: y :: l, _ => by
    obtain ⟨t, ht, hm⟩ := max_in r (l := y :: l) (by simp)
    by_cases e : r t ≤ r x
    · refine ⟨x, by simp, fun v hv => ?_⟩
      rcases List.mem_cons.mp hv with rfl | hv
      · exact Nat.le_refl _
      · exact Nat.le_trans (hm v hv) e
    · refine ⟨t, by simp at ht ⊢; exact .inr ht, fun v hv => ?_⟩
      rcases List.mem_cons.mp hv with rfl | hv
      · omega
      · exact hm v hv
theorem stT_len (hb : ∀ p ∈ ps, p.1 < m ∧ p.2 < m) (ha : Acyc ps) : ∀ i, (stT m ps i).1.length ≤ m - i
  | 0 => by simp [stT]
  | i + 1 => by
    have ih := stT_len hb ha i
    obtain ⟨r, hr⟩ := ha
    by_cases hz : (stT m ps i).1 = []
    · have : (stT m ps (i + 1)).1 = [] := by
        show ((stT m ps i).1.filter _) = []
        rw [hz]; rfl
      rw [this]; simp
    · obtain ⟨t, ht, hm⟩ := max_in r hz
      have hnt : t ∉ (stT m ps (i + 1)).1 := fun z => by
        obtain ⟨_, v, h1, h2⟩ := (stT_left hb i t).mp z
        have := hr _ h1
        have := hm v h2
        dsimp only at *
        omega
      have hlt : (stT m ps (i + 1)).1.length < (stT m ps i).1.length := by
        refine Nat.lt_of_le_of_ne (List.length_filter_le _ _) fun e => hnt ?_
        have : (stT m ps (i + 1)).1 = (stT m ps i).1 := List.filter_eq_self.mpr (List.length_filter_eq_length_iff.mp e)
        rw [this]; exact ht
      omega
theorem stT_end (hb : ∀ p ∈ ps, p.1 < m ∧ p.2 < m) (ha : Acyc ps) : (stT m ps m).2 = [] := by
  have h1 := stT_len hb ha m
  have h2 : (stT m ps m).1 = [] := List.length_eq_zero_iff.mp (by omega)
  refine List.eq_nil_iff_forall_not_mem.mpr fun p hp => ?_
  have := ((stT_some hb m p).mp hp).2
  rw [h2] at this; simp at this
theorem stT_lens (i : Nat) : (stT m ps i).1.length ≤ m ∧ (stT m ps i).2.length ≤ ps.length := by
  induction i with
  | zero => simp [stT]
  | succ i ih => exact ⟨Nat.le_trans (List.length_filter_le _ _) ih.1, Nat.le_trans (List.length_filter_le _ _) ih.2⟩
end
section
variable {C : Ctx}
def SRingT (f : FS) : Prop := ∀ (m : Nat) (ps : List Pr), 1 ≤ m → m ≤ 1000 → ps.length ≤ 1000 → (∀ p ∈ ps, p.1 < m ∧ p.2 < m) → ∃ k : Bool, f [.int m, .lst false (ps.map enc)] = .ok (.bl k, []) ∧ (k = false ↔ Acyc ps)
def trimBody : List CS := [.asg false (.s 5) (.lc (.slot 6) (.t [.s 6, .s 7]) (.val (.slot 3)) [] [6, 7]), .asg false (.s 2) (.lc (.slot 8) (.s 8) (.val (.slot 2)) [.cmp .In (.slot 8) (.slot 5)] [8]), .asg false (.s 3) (.lc (.tup [.slot 6, .slot 7]) (.t [.s 6, .s 7]) (.val (.slot 3)) [.cmp .In (.slot 7) (.slot 2)] [6, 7]), .ife (.cmp .Eq (.bf .len [.slot 3]) (.cst (.int 0))) [.ret (.cst (.bl false))] []]
theorem trim_body (hp : C.pin = []) {m : Nat} {t : T} {left : List Nat} {some' : List Pr} {s4 s5 : Option T} (hl : left.length ≤ 1000) (hs : some'.length ≤ 1000) :
    (((trimS (left, some')).2 = [] → ∃ η', evB C trimBody [some (.int m), some t, some (.lst true (left.map enc)), some (.lst true (some'.map enc)), s4, s5, none, none, none] = .rt (.bl false) η') ∧
    ((trimS (left, some')).2 ≠ [] → ∃ s5', evB C trimBody [some (.int m), some t, some (.lst true (left.map enc)), some (.lst true (some'.map enc)), s4, s5, none, none, none] = .nx [some (.int m), some t, some (.lst true ((trimS (left, some')).1.map enc)), some (.lst true ((trimS (left, some')).2.map enc)), s4, s5', none, none, none])) := by
  obtain ⟨A, hA⟩ : ∃ A, A = some'.map (·.1) := ⟨_, rfl⟩
  obtain ⟨L', hL'⟩ : ∃ L', L' = left.filter fun t => decide (t ∈ A) := ⟨_, rfl⟩
  obtain ⟨S', hS'⟩ : ∃ S', S' = some'.filter fun p => decide (p.2 ∈ L') := ⟨_, rfl⟩
  have e1 : (trimS (left, some')).1 = L' := by rw [hL', hA]; rfl
  have e2 : (trimS (left, some')).2 = S' := by rw [hS', hL', hA]; rfl
  rw [e1, e2]
  have l1 : ∀ s5, evE C (.lc (.slot 6) (.t [.s 6, .s 7]) (.val (.slot 3)) [] [6, 7]) [some (.int m), some t, some (.lst true (left.map enc)), some (.lst true (some'.map enc)), s4, s5, none, none, none] = .ok (.v (.lst true (A.map enc)), [some (.int m), some t, some (.lst true (left.map enc)), some (.lst false (some'.map enc)), s4, s5, none, none, none]) := fun s5 => by
    rw [lc_map enc (fun p : Pr => enc p.1) some' (η1 := [some (.int m), some t, some (.lst true (left.map enc)), some (.lst false (some'.map enc)), s4, s5, none, none, none])]
    · simp [hA]
    · simp
    · simp [plainSl, hp]
    · simp only [sizeL]; omega
    · intro p _
      simp [turnL]
  have l2 : evE C (.lc (.slot 8) (.s 8) (.val (.slot 2)) [.cmp .In (.slot 8) (.slot 5)] [8]) [some (.int m), some t, some (.lst true (left.map enc)), some (.lst false (some'.map enc)), s4, some (.lst true (A.map enc)), none, none, none] = .ok (.v (.lst true (L'.map enc)), [some (.int m), some t, some (.lst false (left.map enc)), some (.lst false (some'.map enc)), s4, some (.lst true (A.map enc)), none, none, none]) := by
    rw [lc_filter enc enc (fun t => decide (t ∈ A)) left (η1 := [some (.int m), some t, some (.lst false (left.map enc)), some (.lst false (some'.map enc)), s4, some (.lst true (A.map enc)), none, none, none])]
    · rw [← hL']; simp
    · simp
    · simp [plainSl, hp]
    · simp only [sizeL]; omega
    · intro v _
      have e : cmpT .In (.int v) (.lst true (A.map enc)) = some (.bl (decide (v ∈ A))) := (c_inL (α := Nat) (by decide) true v A).trans (by congr)
      by_cases hz : v ∈ A <;> simp [turnL, e, hz]
  have l3 : evE C (.lc (.tup [.slot 6, .slot 7]) (.t [.s 6, .s 7]) (.val (.slot 3)) [.cmp .In (.slot 7) (.slot 2)] [6, 7]) [some (.int m), some t, some (.lst true (L'.map enc)), some (.lst false (some'.map enc)), s4, some (.lst true (A.map enc)), none, none, none] = .ok (.v (.lst true (S'.map enc)), [some (.int m), some t, some (.lst true (L'.map enc)), some (.lst false (some'.map enc)), s4, some (.lst true (A.map enc)), none, none, none]) := by
    rw [lc_filter enc enc (fun p : Pr => decide (p.2 ∈ L')) some' (η1 := [some (.int m), some t, some (.lst true (L'.map enc)), some (.lst false (some'.map enc)), s4, some (.lst true (A.map enc)), none, none, none])]
    · rw [← hS']; simp
    · simp
    · simp [plainSl, hp]
    · simp only [sizeL]; omega
    · intro p _
      have e : cmpT .In (.int p.2) (.lst true (L'.map enc)) = some (.bl (decide (p.2 ∈ L'))) := (c_inL (α := Nat) (by decide) true p.2 L').trans (by congr)
      by_cases hz : p.2 ∈ L'
      · simp [turnL, e, hz] <;> rfl
      · simp [turnL, e, hz]
  constructor
  · intro hz
    refine ⟨[some (.int m), some t, some (.lst true (L'.map enc)), some (.lst true []), s4, some (.lst true (A.map enc)), none, none, none], ?_⟩
    rw [hz, List.map_nil] at l3
    simp [trimBody, l1, l2, l3, hp]
  · intro hz
    refine ⟨some (.lst true (A.map enc)), ?_⟩
    have hz' : ¬ S'.length = 0 := fun e => hz (List.length_eq_zero_iff.mp e)
    simp [trimBody, l1, l2, l3, hp, hz]
theorem r_law_ringT (hp : C.pin = []) : SRingT (evF C [] 9 [.par 2 3 (.bf .lrg [.slot 0]) (.bf .list [.slot 1]), .for_ (.s 4) (.rng [.slot 0]) trimBody, .ret (.cst (.bl true))]) := fun m ps hm1 hm hl hb => by
  have hlr : bfT .lrg [.int m] = some (.lst true ((List.range m).map enc)) := by
    simp only [bfT]
    rw [if_pos (by omega)]
    simp only [Int.toNat_natCast]
    rfl
  have h := for_ret (C := C) (tg := .s 4) (it := .rng [.slot 0]) (b := trimBody) (η := [some (.int m), some (.lst false (ps.map enc)), some (.lst true ((List.range m).map enc)), some (.lst true (ps.map enc)), none, none, none, none, none]) (η1 := [some (.int m), some (.lst false (ps.map enc)), some (.lst true ((List.range m).map enc)), some (.lst true (ps.map enc)), none, none, none, none, none]) enc (List.range m)
    (it_rng1 (o := .v (.int m)) (by simp) (by simp) (by omega)) (by simp [hp]) (fun t η => t = .bl false ∧ ∃ j, (stT m ps j).2 = [])
    (fun i η => ∃ s4 s5, η = [some (.int m), some (.lst false (ps.map enc)), some (.lst true ((stT m ps i).1.map enc)), some (.lst true ((stT m ps i).2.map enc)), s4, s5, none, none, none] ∧ ∀ j, 1 ≤ j → j ≤ i → (stT m ps j).2 ≠ []) ⟨none, none, rfl, fun j h1 h2 => by omega⟩ (by
      rintro i u η hi ⟨s4, s5, rfl, hne⟩
      obtain ⟨q1, q2⟩ := stT_lens (m := m) (ps := ps) i
      obtain ⟨t1, t2⟩ := trim_body (C := C) hp (m := m) (t := .lst false (ps.map enc)) (left := (stT m ps i).1) (some' := (stT m ps i).2) (s4 := some (.int u)) (s5 := s5) (by omega) (by omega)
      refine ⟨[some (.int m), some (.lst false (ps.map enc)), some (.lst true ((stT m ps i).1.map enc)), some (.lst true ((stT m ps i).2.map enc)), some (.int u), s5, none, none, none], by simp, ?_⟩
      by_cases hz : (stT m ps (i + 1)).2 = []
      · obtain ⟨η', e⟩ := t1 hz
        exact .inr ⟨_, η', e, rfl, i + 1, hz⟩
      · obtain ⟨s5', e⟩ := t2 hz
        refine .inl ⟨_, .inl e, some (.int u), s5', rfl, fun j h1 h2 => ?_⟩
        by_cases hj : j = i + 1
        · subst hj; exact hz
        · exact hne j h1 (by omega))
  have hstart : evS C (.par 2 3 (.bf .lrg [.slot 0]) (.bf .list [.slot 1])) [some (.int m), some (.lst false (ps.map enc)), none, none, none, none, none, none, none] = .nx [some (.int m), some (.lst false (ps.map enc)), some (.lst true ((List.range m).map enc)), some (.lst true (ps.map enc)), none, none, none, none, none] := by
    simp [hlr, hp]
  rcases h with ⟨η', h2, s4, s5, rfl, hne⟩ | ⟨u, η', h2, rfl, j, hj⟩
  · refine ⟨true, ?_, ?_⟩
    · refine evF_eq (η' := [some (.int m), some (.lst false (ps.map enc)), some (.lst true ((stT m ps (List.range m).length).1.map enc)), some (.lst true ((stT m ps (List.range m).length).2.map enc)), s4, s5, none, none, none]) ?_ (outs_nil _)
      show evB C _ [some (.int m), some (.lst false (ps.map enc)), none, none, none, none, none, none, none] = _
      rw [evB_nx hstart, evB_nx h2]
      simp
    · constructor
      · intro z; cases z
      · intro ha
        rw [List.length_range] at hne
        exact absurd (stT_end hb ha) (hne m hm1 (Nat.le_refl _))
  · refine ⟨false, ?_, fun _ => stT_acyc hb hj, fun _ => rfl⟩
    refine evF_eq (η' := η') ?_ (outs_nil _)
    show evB C _ [some (.int m), some (.lst false (ps.map enc)), none, none, none, none, none, none, none] = _
    rw [evB_nx hstart, evB_rt h2]
/-- the things that are reached, as a list -/
def SLReach (f : FS) : Prop := ∀ (m : Nat) (ps : List Pr) (b : Nat), m ≤ 1000 → ps.length ≤ 1000 → ps.Nodup → (∀ p ∈ ps, p.1 < m ∧ p.2 < m) → b < m → ∃ F : List Nat, f [.lst false (ps.map enc), .int b] = .ok (.lst false (F.map enc), []) ∧ ∀ v, v ∈ F ↔ Rch ps b v
def lreachBody : List CS := [.asg false (.s 4) (.bm .pop (.slot 3) []), .asg false (.s 5) (.lc (.slot 7) (.t [.s 6, .s 7]) (.val (.slot 0)) [.tand (.cmp .Eq (.slot 6) (.slot 4)) (.cmp .NotIn (.slot 7) (.slot 2))] [6, 7]), .expr (.bm .extend (.slot 2) [.slot 5]), .expr (.bm .extend (.slot 3) [.slot 5])]
theorem lreach_body (hp : C.pin = []) {m b h : Nat} {ps : List Pr} {F W : List Nat} {s1 s4 s5 : Option T} (hm : m ≤ 1000) (hl : ps.length ≤ 1000) (hnd : ps.Nodup) (hb : ∀ p ∈ ps, p.1 < m ∧ p.2 < m) (k : RI m ps b F (W ++ [h])) :
    ∃ new s4' s5', RI m ps b (F ++ new) (W ++ new) ∧ evB C lreachBody [some (.lst false (ps.map enc)), s1, some (.lst true (F.map enc)), some (.lst true ((W ++ [h]).map enc)), s4, s5, none, none] = .nx [some (.lst false (ps.map enc)), s1, some (.lst true ((F ++ new).map enc)), some (.lst true ((W ++ new).map enc)), s4', s5', none, none] := by
  obtain ⟨N, hN⟩ : ∃ N, N = (ps.filter fun p => decide (p.1 = h ∧ p.2 ∉ F)).map (·.2) := ⟨_, rfl⟩
  have hmN : ∀ v, v ∈ N ↔ (h, v) ∈ ps ∧ v ∉ F := fun v => by
    rw [hN, List.mem_map]
    constructor
    · rintro ⟨p, hp', rfl⟩
      obtain ⟨h1, h2⟩ := List.mem_filter.mp hp'
      have := of_decide_eq_true h2
      exact ⟨by rw [← this.1]; exact h1, this.2⟩
    · rintro ⟨h1, h2⟩
      exact ⟨(h, v), List.mem_filter.mpr ⟨h1, decide_eq_true ⟨rfl, h2⟩⟩, rfl⟩
  have hNn : N.Nodup := by
    rw [hN, List.Nodup, List.pairwise_map]
    refine ((List.Pairwise.and_mem.mp (hnd.filter _))).imp fun {p q} ⟨hp', hq', hne⟩ e => hne ?_
    have h1 := (of_decide_eq_true (List.mem_filter.mp hp').2).1
    have h2 := (of_decide_eq_true (List.mem_filter.mp hq').2).1
    exact Prod.ext (h1.trans h2.symm) e
  have k' := k.step hNn hmN fun p hp' => (hb p hp').2
  obtain ⟨q1, q2⟩ := k'.len
  rw [List.length_append] at q1 q2
  refine ⟨N, some (.int h), some (.lst false (N.map enc)), k', ?_⟩
  have hpop := pop_last W h
  have hck : ∀ η : Env, η[3]? = some (some (.lst true ((W ++ [h]).map enc))) → chkB .pop (.pl 3 []) η = true := fun η h => by simp only [chkB, kind_pl, get_nil, h, fl_lst, if_true]
  obtain ⟨WW, hWW⟩ : ∃ WW, WW = W ++ [h] := ⟨_, rfl⟩
  rw [← hWW] at hpop hck ⊢
  have l1 : evE C (.lc (.slot 7) (.t [.s 6, .s 7]) (.val (.slot 0)) [.tand (.cmp .Eq (.slot 6) (.slot 4)) (.cmp .NotIn (.slot 7) (.slot 2))] [6, 7]) [some (.lst false (ps.map enc)), s1, some (.lst true (F.map enc)), some (.lst true (W.map enc)), some (.int h), s5, none, none] =
      .ok (.v (.lst true (N.map enc)), [some (.lst false (ps.map enc)), s1, some (.lst true (F.map enc)), some (.lst true (W.map enc)), some (.int h), s5, none, none]) := by
    rw [lc_filter enc (fun p : Pr => enc p.2) (fun p : Pr => decide (p.1 = h ∧ p.2 ∉ F)) ps (η1 := [some (.lst false (ps.map enc)), s1, some (.lst true (F.map enc)), some (.lst true (W.map enc)), some (.int h), s5, none, none])]
    · rw [hN, List.map_map]; simp
    · simp
    · simp [plainSl, hp]
    · simp only [sizeL]; omega
    · intro p _
      have e : cmpT .NotIn (.int p.2) (.lst true (F.map enc)) = some (.bl (!decide (p.2 ∈ F))) := (c_ninL (α := Nat) (by decide) true p.2 F).trans (by congr)
      by_cases h1 : p.1 = h
      · by_cases h2 : p.2 ∈ F <;> simp [turnL, h1, e, h2]
      · have h1' : ¬ ((p.1 : Int) = (h : Int)) := by omega
        simp [turnL, h1, h1']
  have hx1 : bmT .extend (.lst true (F.map enc)) [.lst false (N.map enc)] = some (.non, .lst true ((F ++ N).map enc)) := by
    simp only [bmT, fzs_encS, Bool.and_true]
    rw [if_pos (by rw [decide_eq_true_eq, List.length_map, List.length_map]; simp only [sizeL]; omega)]
    simp
  have hx2 : bmT .extend (.lst true (W.map enc)) [.lst false (N.map enc)] = some (.non, .lst true ((W ++ N).map enc)) := by
    simp only [bmT, fzs_encS, Bool.and_true]
    rw [if_pos (by rw [decide_eq_true_eq, List.length_map, List.length_map]; simp only [sizeL]; omega)]
    simp
  have hc2 : ∀ s3 s4 s5, chkB .extend (.pl 2 []) [some (.lst false (ps.map enc)), s1, some (.lst true (F.map enc)), s3, s4, s5, none, none] = true := fun _ _ _ => rfl
  have hc3 : ∀ s2 s4 s5, chkB .extend (.pl 3 []) [some (.lst false (ps.map enc)), s1, s2, some (.lst true (W.map enc)), s4, s5, none, none] = true := fun _ _ _ => rfl
  obtain ⟨FN, hFN⟩ : ∃ FN, FN = F ++ N := ⟨_, rfl⟩
  obtain ⟨WN, hWN⟩ : ∃ WN, WN = W ++ N := ⟨_, rfl⟩
  rw [← hFN] at hx1
  rw [← hWN] at hx2
  rw [← hFN, ← hWN]
  simp [lreachBody, evLc, hck, bmGo, bmW, hpop, hp, l1, hc2, hc3, hx1, hx2]
theorem r_law_reached (hp : C.pin = []) : SLReach (evF C [] 8 [.par 2 3 (.lst [.slot 1]) (.lst [.slot 1]), .whl (.cmp .Gt (.bf .len [.slot 3]) (.cst (.int 0))) lreachBody, .ret (.slot 2)]) := fun m ps b hm hl hnd hb hbm => by
  obtain ⟨η', h2, F, s4, s5, k, rfl⟩ := whl_run (C := C) (t := .cmp .Gt (.bf .len [.slot 3]) (.cst (.int 0))) (b := lreachBody) (η := [some (.lst false (ps.map enc)), some (.int b), some (.lst true (([b] : List Nat).map enc)), some (.lst true (([b] : List Nat).map enc)), none, none, none, none])
    (fun η => ∃ F W s4 s5, η = [some (.lst false (ps.map enc)), some (.int b), some (.lst true (F.map enc)), some (.lst true (W.map enc)), s4, s5, none, none] ∧ RI m ps b F W)
    (fun η => ∃ F s4 s5, RI m ps b F [] ∧ η = [some (.lst false (ps.map enc)), some (.int b), some (.lst true (F.map enc)), some (.lst true []), s4, s5, none, none])
    (fun (η : Env) => match η[2]?, η[3]? with | some (some (T.lst _ ks)), some (some (T.lst _ ts)) => 2 * (2000 - ks.length) + ts.length | _, _ => 0)
    ⟨[b], [b], none, none, rfl, .start hbm⟩ (by simp)
    (by
      rintro η ⟨F, W, s4, s5, rfl, k⟩
      refine ⟨.v (.bl (decide (0 < W.length))), decide (0 < W.length), _, by simp; rfl, rfl, fun hk => ?_, fun hk => ?_⟩
      · simp only [decide_eq_true_eq] at hk
        obtain ⟨W', h, rfl⟩ : ∃ W' h, W = W' ++ [h] := ⟨W.dropLast, W.getLast (by intro e; subst e; simp at hk), (List.dropLast_concat_getLast _).symm⟩
        obtain ⟨new, s4', s5', k', hbd⟩ := lreach_body (C := C) hp (s1 := some (.int b)) (s4 := s4) (s5 := s5) hm hl hnd hb k
        refine ⟨_, .inl hbd, ⟨F ++ new, W' ++ new, s4', s5', rfl, k'⟩, ?_⟩
        have hFl := k'.len.1
        simp only [List.getElem?_cons_succ, List.getElem?_cons_zero, List.length_map, List.length_append, List.length_singleton] at hFl ⊢
        omega
      · simp only [decide_eq_false_iff_not] at hk
        have : W = [] := List.length_eq_zero_iff.mp (by omega)
        subst this
        exact ⟨F, s4, s5, k, rfl⟩)
  refine ⟨F, ?_, fun v => k.fin v⟩
  refine evF_eq (η' := [some (.lst false (ps.map enc)), some (.int b), some (.lst false (F.map enc)), some (.lst true []), s4, s5, none, none]) ?_ (outs_nil _)
  have h2' : evS C (.whl (.cmp .Gt (.bf .len [.slot 3]) (.cst (.int 0))) lreachBody) [some (.lst false (ps.map enc)), some (.int b), some (.lst true [.int b]), some (.lst true [.int b]), none, none, none, none] = .nx [some (.lst false (ps.map enc)), some (.int b), some (.lst true (F.map enc)), some (.lst true []), s4, s5, none, none] := h2
  simp [hp]
  rw [h2']
  simp
end
end TV
/-! what is drawn for looks -/
namespace TV
open PySem L2
open Enc (enc)
section
variable {C : Ctx}
/-- one of some things -/
def SSome (f : FS) : Prop := ∀ (h : T) (ts : List T) (t : T), HandOk h → seqOf t = some ts → t.fl = false → t.sh = true → fzs ts = true → 1 ≤ ts.length → ts.length ≤ 1000 → ∃ (x : T) (h' : T), f [h, t] = .ok (x, [some h']) ∧ x ∈ ts ∧ HandOk h'
theorem child_seq {t : T} {ts : List T} {i : Nat} (h : seqOf t = some ts) (hi : i < ts.length) : childOf t (.int (i : Int)) = some i ∧ kidsT t = ts := by
  cases t <;> simp only [seqOf] at h <;> first
    | (cases h; done)
    | (obtain rfl := Option.some.inj h; exact ⟨child_tup hi, rfl⟩)
    | (obtain rfl := Option.some.inj h; exact ⟨child_lst hi, rfl⟩)
theorem len_seq {t : T} {ts : List T} (h : seqOf t = some ts) : bfT .len [t] = some (.int ts.length) := by
  cases t <;> simp only [seqOf] at h <;> first
    | (cases h; done)
    | (obtain rfl := Option.some.inj h; simp)
theorem r_law_some {f22 : Nat} (hp : C.pin = [0]) (hio : C.io f22 = [true]) (h22 : SDraw (C.fs f22)) : SSome (evF C [true] 2 [.ret (.idx (.slot 1) (.call f22 [.slot 0, .bf .len [.slot 1]]))]) := fun h ts t k hs hf hsh hfz h1 h2 => by
  obtain ⟨r, h', e, hr, k'⟩ := callF_draw (f := C.fs f22) h22 (m := ts.length) (η := [some h, some t]) k h1 (by omega) 0 rfl
  simp only [List.set_cons_zero] at e
  obtain ⟨c1, c2⟩ := child_seq hs hr
  have hx : (kidsT t)[r]? = some ts[r] := by rw [c2, List.getElem?_eq_getElem hr]
  have hxz : ts[r].fz = true := fzs_mem hfz (List.getElem_mem hr)
  refine ⟨ts[r], h', ?_, List.getElem_mem hr, k'⟩
  refine evF_eq (η' := [some h', some t]) ?_ rfl
  simp [hf, hsh, len_seq hs, k.fl, hio, e, idxE, c1, hx]
/-- things in a drawn row -/
def SShuf (f : FS) : Prop := ∀ (h : T) (l : List Nat), HandOk h → l.length ≤ 1000 → ∃ (row : List Nat) (h' : T), f [h, .lst false (l.map enc)] = .ok (.lst false (row.map enc), [some h']) ∧ row.Perm l ∧ HandOk h'
theorem r_law_shuffled {f22 : Nat} (hp : C.pin = [0]) (hio : C.io f22 = [true]) (h22 : SDraw (C.fs f22)) : SShuf (evF C [true] 4 [.asg false (.s 2) (.bf .list [.slot 1]), .asg false (.s 3) (.lst []), .whl (.cmp .Gt (.bf .len [.slot 2]) (.cst (.int 0))) [.expr (.bm .append (.slot 3) [.bm .pop (.slot 2) [.call f22 [.slot 0, .bf .len [.slot 2]]]])], .ret (.slot 3)]) := fun h l k hl => by
  obtain ⟨η', h2, h', row, hperm, k', rfl⟩ := whl_run (C := C) (t := .cmp .Gt (.bf .len [.slot 2]) (.cst (.int 0))) (b := [.expr (.bm .append (.slot 3) [.bm .pop (.slot 2) [.call f22 [.slot 0, .bf .len [.slot 2]]]])]) (η := [some h, some (.lst false (l.map enc)), some (.lst true (l.map enc)), some (.lst true (([] : List Nat).map enc))])
    (fun η => ∃ (h' : T) (left row : List Nat), η = [some h', some (.lst false (l.map enc)), some (.lst true (left.map enc)), some (.lst true (row.map enc))] ∧ (row ++ left).Perm l ∧ HandOk h')
    (fun η => ∃ (h' : T) (row : List Nat), row.Perm l ∧ HandOk h' ∧ η = [some h', some (.lst false (l.map enc)), some (.lst true []), some (.lst true (row.map enc))])
    (fun (η : Env) => match η[2]? with | some (some (T.lst _ ts)) => ts.length | _ => 0)
    ⟨h, l, [], rfl, by simp, k⟩ (by simp; omega)
    (by
      rintro η ⟨h', left, row, rfl, hperm, k'⟩
      refine ⟨.v (.bl (decide (0 < left.length))), decide (0 < left.length), _, by simp; rfl, rfl, fun hk => ?_, fun hk => ?_⟩
      · simp only [decide_eq_true_eq] at hk
        have hlen : row.length + left.length = l.length := by simpa using hperm.length_eq
        obtain ⟨r, h'', e, q, k''⟩ := callF_draw (f := C.fs f22) h22 (m := left.length) (η := [some h', some (.lst false (l.map enc)), some (.lst true (left.map enc)), some (.lst true (row.map enc))]) k' (by omega) (by omega) 0 rfl
        simp only [List.set_cons_zero] at e
        have hge : left[r]? = some left[r] := List.getElem?_eq_getElem q
        have hpop : bmT .pop (.lst true (left.map enc)) [.int r] = some (.int left[r], .lst true ((left.eraseIdx r).map enc)) := by
          have : idxOf (left.map enc).length (r : Int) = some r := idx_nat (by simpa using q)
          simp only [bmT, this]
          rw [List.getElem?_map, hge]
          simp [eraseIdx_mapE]
        have hap : bmT .append (.lst true (row.map enc)) [.int left[r]] = some (.non, .lst true ((row ++ [left[r]]).map enc)) := by
          simp only [bmT]
          rw [if_pos (by rw [List.length_map]; simp only [sizeL]; omega)]
          simp
        have hck : ∀ s0, chkB .pop (.pl 2 []) [s0, some (.lst false (l.map enc)), some (.lst true (left.map enc)), some (.lst true (row.map enc))] = true := fun _ => rfl
        have hck2 : ∀ s0 s2, chkB .append (.pl 3 []) [s0, some (.lst false (l.map enc)), s2, some (.lst true (row.map enc))] = true := fun _ _ => rfl
        refine ⟨[some h'', some (.lst false (l.map enc)), some (.lst true ((left.eraseIdx r).map enc)), some (.lst true ((row ++ [left[r]]).map enc))], .inl ?_, ⟨h'', left.eraseIdx r, row ++ [left[r]], rfl, ?_, k''⟩, ?_⟩
        · obtain ⟨x, hx⟩ : ∃ x, x = left[r] := ⟨_, rfl⟩
          obtain ⟨R, hR⟩ : ∃ R, R = row ++ [left[r]] := ⟨_, rfl⟩
          rw [← hR] at hap ⊢
          rw [← hx] at hap hpop
          simp [evLc, hck, hck2, k'.fl, hio, e, bmGo, bmW, hpop, hap]
        · have hp1 := eraseIdx_perm left r q
          refine List.Perm.trans ?_ hperm
          rw [List.append_assoc]
          exact List.Perm.append_left row hp1
        · simp only [List.getElem?_cons_succ, List.getElem?_cons_zero, List.length_map, List.length_eraseIdx, q, if_true]
          omega
      · simp only [decide_eq_false_iff_not] at hk
        have : left = [] := List.length_eq_zero_iff.mp (by omega)
        subst this
        rw [List.append_nil] at hperm
        exact ⟨h', row, hperm, k', rfl⟩)
  refine ⟨row, h', ?_, hperm, k'⟩
  refine evF_eq (η' := [some h', some (.lst false (l.map enc)), some (.lst true []), some (.lst false (row.map enc))]) ?_ rfl
  have h2' : evS C (.whl (.cmp .Gt (.bf .len [.slot 2]) (.cst (.int 0))) [.expr (.bm .append (.slot 3) [.bm .pop (.slot 2) [.call f22 [.slot 0, .bf .len [.slot 2]]]])]) [some h, some (.lst false (l.map enc)), some (.lst true (l.map enc)), some (.lst true [])] = .nx [some h', some (.lst false (l.map enc)), some (.lst true []), some (.lst true (row.map enc))] := h2
  simp [hp]
  rw [h2']
  simp
theorem callF_shuf {f : FS} (hf : SShuf f) {h : T} {l : List Nat} {η : Env} (k : HandOk h) (h1 : l.length ≤ 1000) (i : Nat) (hη : η[i]? = some (some h)) : ∃ (row : List Nat) (h' : T), callF f [true] [.pl i [], .v (.lst true (l.map enc))] η = .ok (.v (.lst false (row.map enc)), (η.set i none).set i (some h')) ∧ row.Perm l ∧ HandOk h' := by
  obtain ⟨row, h', e, q, k'⟩ := hf h l k h1
  refine ⟨row, h', ?_, q, k'⟩
  unfold callF
  simp [hη, k.fl, e]
/-- drawn arrows, by two loops -/
theorem r_law_arrows2 {f22 f24 : Nat} (hp : C.pin = [0]) (hio : C.io f22 = [true]) (h22 : SDraw (C.fs f22)) (hio2 : C.io f24 = [true]) (h24 : SShuf (C.fs f24)) : SArrows (evF C [true] 7 [.asg false (.s 3) (.call f24 [.slot 0, .bf .lrg [.slot 1]]), .asg false (.s 4) (.lst []), .for_ (.s 5) (.rng [.slot 1]) [.for_ (.s 6) (.rng [.bin .Add (.slot 5) (.cst (.int 1)), .slot 1]) [.ife (.cmp .Eq (.call f22 [.slot 0, .slot 2]) (.cst (.int 0))) [.expr (.bm .append (.slot 4) [.tup [.idx (.slot 3) (.slot 5), .idx (.slot 3) (.slot 6)]])] []]], .ret (.bf .tuple [.bf .sorted [.slot 4]])]) := fun h m r k hm1 hm2 hr1 hr2 => by
  have hlr : bfT .lrg [.int m] = some (.lst true ((List.range m).map enc)) := by
    simp only [bfT]
    rw [if_pos (by omega)]
    simp only [Int.toNat_natCast]
    rfl
  obtain ⟨row, h1, e1, hperm, k1⟩ := callF_shuf (f := C.fs f24) h24 (l := List.range m) (η := [some h, some (.int m), some (.int r), none, none, none, none]) k (by simp; omega) 0 rfl
  simp only [List.set_cons_zero] at e1
  have hlen : row.length = m := by have := hperm.length_eq; simpa using this
  have hmm : ∀ i, i ≤ m → (pairsTo m i).length ≤ 900 := fun i hi => by
    have h1 := pairs_len m i
    have h2 : i * m ≤ 30 * 30 := Nat.mul_le_mul (by omega) hm2
    omega
  obtain ⟨η', h2, h', sel, s5, s6, e3, hsub, k'⟩ := for_run (C := C) (tg := .s 5) (it := .rng [.slot 1]) (b := [.for_ (.s 6) (.rng [.bin .Add (.slot 5) (.cst (.int 1)), .slot 1]) [.ife (.cmp .Eq (.call f22 [.slot 0, .slot 2]) (.cst (.int 0))) [.expr (.bm .append (.slot 4) [.tup [.idx (.slot 3) (.slot 5), .idx (.slot 3) (.slot 6)]])] []]])
    (η := [some h1, some (.int m), some (.int r), some (.lst false (row.map enc)), some (.lst true []), none, none]) (η1 := [some h1, some (.int m), some (.int r), some (.lst false (row.map enc)), some (.lst true []), none, none]) enc (List.range m) (it_rng1 (o := .v (.int m)) (by simp) (by simp) (by omega)) (by simp [hp, FT.slots])
    (fun i η => ∃ (h' : T) (sel : List Pr) (s5 s6 : Option T), η = [some h', some (.int m), some (.int r), some (.lst false (row.map enc)), some (.lst true ((sel.map (atRow row)).map enc)), s5, s6] ∧ sel.Sublist (pairsTo m i) ∧ HandOk h') ⟨h1, [], none, none, rfl, by simp, k1⟩ (by
      rintro i u η hi ⟨h', sel, s5, s6, rfl, hsub, k'⟩
      obtain ⟨hil, rfl⟩ : i < m ∧ i = u := by
        obtain ⟨h1, h2⟩ := List.getElem?_eq_some_iff.mp hi
        simp at h1 h2
        exact ⟨h1, h2⟩
      obtain ⟨η2, h3, h'', sel2, s6', e4, hsub2, k''⟩ := for_run (C := C) (tg := .s 6) (it := .rng [.bin .Add (.slot 5) (.cst (.int 1)), .slot 1]) (b := [.ife (.cmp .Eq (.call f22 [.slot 0, .slot 2]) (.cst (.int 0))) [.expr (.bm .append (.slot 4) [.tup [.idx (.slot 3) (.slot 5), .idx (.slot 3) (.slot 6)]])] []])
        (η := [some h', some (.int m), some (.int r), some (.lst false (row.map enc)), some (.lst true ((sel.map (atRow row)).map enc)), some (.int i), s6]) (η1 := [some h', some (.int m), some (.int r), some (.lst false (row.map enc)), some (.lst true ((sel.map (atRow row)).map enc)), some (.int i), s6]) enc (List.range' (i + 1) (m - (i + 1))) (it_rng2 (n := i + 1) (m := m) (by simp) (by omega) (by omega)) (by simp [hp, FT.slots])
        (fun j η => ∃ (h' : T) (sel : List Pr) (s6 : Option T), η = [some h', some (.int m), some (.int r), some (.lst false (row.map enc)), some (.lst true ((sel.map (atRow row)).map enc)), some (.int i), s6] ∧ sel.Sublist (pairsTo m i ++ (rowP m i).take j) ∧ HandOk h') ⟨h', sel, s6, rfl, by simpa using hsub, k'⟩ (by
          rintro j v η hj ⟨h', sel, s6, rfl, hsub, k'⟩
          have hv : i < v ∧ v < m := by
            have := List.mem_of_getElem? hj
            rw [List.mem_range'_1] at this
            omega
          have htk : (rowP m i).take (j + 1) = (rowP m i).take j ++ [(i, v)] := by
            rw [List.take_add_one]
            congr 1
            unfold rowP
            rw [List.getElem?_map, hj]; rfl
          obtain ⟨d, h'', ed, hd, k''⟩ := callF_draw (f := C.fs f22) h22 (m := r) (η := [some h', some (.int m), some (.int r), some (.lst false (row.map enc)), some (.lst true ((sel.map (atRow row)).map enc)), some (.int i), some (.int v)]) k' hr1 (by omega) 0 rfl
          simp only [List.set_cons_zero] at ed
          have c1 : childOf (.lst false (row.map enc)) (.int i) = some i := child_lst (by simp; omega)
          have c2 : childOf (.lst false (row.map enc)) (.int v) = some v := child_lst (by simp; omega)
          have x1 : (row.map enc)[i]? = some (.int (row.getD i 0)) := by
            rw [List.getElem?_map, List.getElem?_eq_getElem (by omega), getD_mem (by omega)]; rfl
          have x2 : (row.map enc)[v]? = some (.int (row.getD v 0)) := by
            rw [List.getElem?_map, List.getElem?_eq_getElem (by omega), getD_mem (by omega)]; rfl
          by_cases hz : d = 0
          · refine ⟨[some h', some (.int m), some (.int r), some (.lst false (row.map enc)), some (.lst true ((sel.map (atRow row)).map enc)), some (.int i), some (.int v)],
              [some h'', some (.int m), some (.int r), some (.lst false (row.map enc)), some (.lst true (((sel ++ [(i, v)]).map (atRow row)).map enc)), some (.int i), some (.int v)], by simp, .inl ?_, h'', sel ++ [(i, v)], _, rfl, by rw [htk, ← List.append_assoc]; exact hsub.append (List.Sublist.refl _), k''⟩
            have hsl : sel.length ≤ 1000 := by
              have h1 := hsub.length_le
              have h2 := hmm i (by omega)
              have h3 : (rowP m i).length ≤ m := by simp [rowP]
              rw [List.length_append, List.length_take] at h1
              omega
            have hap : bmT .append (.lst true ((sel.map (atRow row)).map enc)) [.tup [.int (row.getD i 0), .int (row.getD v 0)]] = some (.non, .lst true (((sel ++ [(i, v)]).map (atRow row)).map enc)) := by
              simp only [bmT]
              rw [if_pos (by rw [List.length_map, List.length_map]; simp only [sizeL]; omega)]
              simp only [List.map_append, List.map_cons, List.map_nil]
              rfl
            have hck : ∀ (s0 : Option T), chkB .append (.pl 4 []) [s0, some (.int m), some (.int r), some (.lst false (row.map enc)), some (.lst true ((sel.map (atRow row)).map enc)), some (.int i), some (.int v)] = true := fun _ => rfl
            obtain ⟨M, hM⟩ : ∃ M, M = sel.map (atRow row) := ⟨_, rfl⟩
            obtain ⟨M', hM'⟩ : ∃ M, M = (sel ++ [(i, v)]).map (atRow row) := ⟨_, rfl⟩
            rw [← hM] at hap ed hck ⊢
            rw [← hM'] at hap ⊢
            obtain ⟨y1, hy1⟩ : ∃ y, y = row.getD i 0 := ⟨_, rfl⟩
            obtain ⟨y2, hy2⟩ : ∃ y, y = row.getD v 0 := ⟨_, rfl⟩
            rw [← hy1, ← hy2] at hap
            rw [← hy1] at x1
            rw [← hy2] at x2
            simp [k'.fl, hio, ed, hz, evLc, hck, idxE, c1, c2, x1, x2, bmGo, bmW, hap]
          · refine ⟨[some h', some (.int m), some (.int r), some (.lst false (row.map enc)), some (.lst true ((sel.map (atRow row)).map enc)), some (.int i), some (.int v)],
              [some h'', some (.int m), some (.int r), some (.lst false (row.map enc)), some (.lst true ((sel.map (atRow row)).map enc)), some (.int i), some (.int v)], by simp, .inl ?_, h'', sel, _, rfl, by rw [htk, ← List.append_assoc]; exact hsub.trans (List.sublist_append_left _ _), k''⟩
            obtain ⟨M, hM⟩ : ∃ M, M = sel.map (atRow row) := ⟨_, rfl⟩
            rw [← hM] at ed ⊢
            simp [k'.fl, hio, ed, hz])
      rw [show (List.range' (i + 1) (m - (i + 1))).length = (rowP m i).length by simp [rowP], List.take_length] at hsub2
      refine ⟨[some h', some (.int m), some (.int r), some (.lst false (row.map enc)), some (.lst true ((sel.map (atRow row)).map enc)), some (.int i), s6], η2, by simp, .inl ?_, h'', sel2, some (.int i), s6', e4, ?_, k''⟩
      · rw [evB_nx h3, x_B0]
      · have : pairsTo m (i + 1) = pairsTo m i ++ rowP m i := by
          unfold pairsTo
          rw [List.range_succ, List.flatMap_append]; simp
        rw [this]; exact hsub2)
  rw [List.length_range] at hsub
  subst e3
  have hsl : sel.length ≤ 1000 := by
    have := hsub.length_le
    have := hmm m (Nat.le_refl _); omega
  obtain ⟨ha, hac⟩ := drawn_arr (m := m) (row := row) (sel := sel) hm2 hperm (fun p hp' => mem_pairsM.mp (hsub.subset hp')) ((pairs_nodup m m).sublist hsub) hsl
  refine ⟨srt (sel.map (atRow row)), h', ?_, ha, hac, k'⟩
  have hs : bfT .sorted [.lst true ((sel.map (atRow row)).map enc)] = some (.lst true ((srt (sel.map (atRow row))).map enc)) := f_sortP (α := Nat) (β := Nat) (by decide) _ rfl
  obtain ⟨M, hM⟩ : ∃ M, M = sel.map (atRow row) := ⟨_, rfl⟩
  rw [← hM] at hs h2 ⊢
  refine evF_eq (η' := [some h', some (.int m), some (.int r), some (.lst false (row.map enc)), some (.lst true (M.map enc)), s5, s6]) ?_ rfl
  simp [k.fl, hio2, hlr, e1, hp]
  rw [h2]
  simp [hs]
end
end TV
/-! what seen ties tell -/
namespace TV
open PySem L2
open Enc (enc)
abbrev Lk := Pr × Bool
/-- a tie as it was seen -/
def seenPr (x : Lk) : Pr := if x.2 then swp x.1 else x.1
/-- ties that were seen: arrows ascending -/
structure Seen (as : List Pr) (s : List Lk) : Prop where
  sub : ∀ x ∈ s, x.1 ∈ as
  asc : s.Pairwise fun x y => Enc.lt x.1 y.1 = true
theorem Seen.lot {as : List Pr} {s : List Lk} (h : Seen as s) : Lot as (s.map (·.1)) := ⟨fun p hp => by
  obtain ⟨x, hx, rfl⟩ := List.mem_map.mp hp
  exact h.sub x hx, List.pairwise_map.mpr h.asc⟩
theorem Seen.len {as : List Pr} {s : List Lk} (h : Seen as s) : s.length ≤ as.length := by
  have := lot_len h.lot
  simpa using this
theorem seen_bound {m : Nat} {as : List Pr} {s : List Lk} (ha : Arr m as) (h : Seen as s) : ∀ p ∈ s.map seenPr, p.1 < m ∧ p.2 < m := fun p hp => by
  obtain ⟨x, hx, rfl⟩ := List.mem_map.mp hp
  obtain ⟨h1, h2, _⟩ := ha.ok _ (h.sub x hx)
  unfold seenPr swp
  split
  · exact ⟨h2, h1⟩
  · exact ⟨h1, h2⟩
theorem seen_nodup {m : Nat} {as : List Pr} {s : List Lk} (ha : Arr m as) (h : Seen as s) : (s.map seenPr).Nodup := by
  rw [List.Nodup, List.pairwise_map]
  refine (List.Pairwise.and_mem.mp h.asc).imp fun {x y} ⟨hx, hy, hlt⟩ e => ?_
  have hne : x.1 ≠ y.1 := fun z => by rw [z, Enc.irr] at hlt; cases hlt
  have h1 := apart_mem ha.ap _ (h.sub x hx) _ (h.sub y hy) hne
  have h2 := apart_mem ha.ap _ (h.sub y hy) _ (h.sub x hx) (Ne.symm hne)
  unfold seenPr at e
  split at e <;> split at e
  · exact hne (by have := congrArg swp e; simpa [swp_swp] using this)
  · exact h2 e.symm
  · exact h1 e
  · exact hne e
open Classical in
/-- the arrows that all, and that none of the fitting standings have -/
noncomputable def sureP (as : List Pr) (ps : List Pr) : Option (List Pr × List Pr) := if Acyc ps then some (as.filter fun a => decide (Rch ps a.2 a.1), as.filter fun a => decide (Rch ps a.1 a.2)) else none
def sureT : Option (List Pr × List Pr) → T
  | none => .non
  | some x => .tup [.tup (x.1.map enc), .tup (x.2.map enc)]
theorem idx_lst {η : Env} {i j : Nat} {D : List T} {x : T} (hη : η[i]? = some (some (.lst true D))) (hj : D[j]? = some x) (hx : x.fl = false) : idxE η (.pl i []) (.int (j : Int)) = some (.v x) := by
  have hc : childOf (.lst true D) (.int (j : Int)) = some j := child_lst (List.getElem?_eq_some_iff.mp hj).1
  simp only [idxE, get_nil, hη, fl_lst, if_true, hc, kids_lst, hj, hx]
  rfl
@[simp] theorem idxE_v0 {η : Env} (a : Pr) : idxE η (.v (enc a)) (.int 0) = some (.v (.int a.1)) := idx0 a
@[simp] theorem idxE_v1 {η : Env} (a : Pr) : idxE η (.v (enc a)) (.int 1) = some (.v (.int a.2)) := idx1 a
section
variable {C : Ctx}
def SSeenP (f : FS) : Prop := ∀ s : List Lk, s.length ≤ 1000 → ∀ o, (o = T.tup (s.map enc)) → f [o] = .ok (.lst true ((s.map seenPr).map enc), [])
theorem r_seen_pairs (hp : C.pin = []) : SSeenP (evF C [] 3 [.ret (.lc (.ife (.slot 2) (.rev (.slot 1) (.un .USub (.cst (.int 1)))) (.slot 1)) (.t [.s 1, .s 2]) (.val (.slot 0)) [] [1, 2])]) := fun s hs o ho => by
  subst ho
  obtain ⟨M, hM⟩ : ∃ M, M = s.map seenPr := ⟨_, rfl⟩
  refine evF_eq (η' := [some (.tup (s.map enc)), none, none]) ?_ (outs_nil _)
  have l1 : evE C (.lc (.ife (.slot 2) (.rev (.slot 1) (.un .USub (.cst (.int 1)))) (.slot 1)) (.t [.s 1, .s 2]) (.val (.slot 0)) [] [1, 2]) [some (.tup (s.map enc)), none, none] = .ok (.v (.lst true (M.map enc)), [some (.tup (s.map enc)), none, none]) := by
    rw [lc_map enc (fun x : Lk => enc (seenPr x)) s (η1 := [some (.tup (s.map enc)), none, none])]
    · simp [hM]
    · simp
    · simp [plainSl, hp]
    · simp only [sizeL]; omega
    · rintro ⟨a, b⟩ _
      cases b <;> simp [turnL, seenPr, swp]
  rw [← hM]
  simp [l1]
theorem r_law_seen_pairs (hp : C.pin = []) : SSeenP (evF C [] 3 [.ret (.lc (.ife (.slot 2) (.tup [.idx (.slot 1) (.cst (.int 1)), .idx (.slot 1) (.cst (.int 0))]) (.slot 1)) (.t [.s 1, .s 2]) (.val (.slot 0)) [] [1, 2])]) := fun s hs o ho => by
  subst ho
  obtain ⟨M, hM⟩ : ∃ M, M = s.map seenPr := ⟨_, rfl⟩
  refine evF_eq (η' := [some (.tup (s.map enc)), none, none]) ?_ (outs_nil _)
  have l1 : evE C (.lc (.ife (.slot 2) (.tup [.idx (.slot 1) (.cst (.int 1)), .idx (.slot 1) (.cst (.int 0))]) (.slot 1)) (.t [.s 1, .s 2]) (.val (.slot 0)) [] [1, 2]) [some (.tup (s.map enc)), none, none] = .ok (.v (.lst true (M.map enc)), [some (.tup (s.map enc)), none, none]) := by
    rw [lc_map enc (fun x : Lk => enc (seenPr x)) s (η1 := [some (.tup (s.map enc)), none, none])]
    · simp [hM]
    · simp
    · simp [plainSl, hp]
    · simp only [sizeL]; omega
    · rintro ⟨a, b⟩ _
      cases b
      · simp [turnL, seenPr, swp]
      · simp [turnL, seenPr, swp] <;> rfl
  rw [← hM]
  simp [l1]
def SLook (f : FS) : Prop := ∀ (m : Nat) (as : List Pr) (x : Lk), Arr m as → x.1 ∈ as → f [H false m as, enc x] = .ok (.bl true, [])
theorem lot_one {as : List Pr} {a : Pr} (h : a ∈ as) : Lot as [a] := ⟨by simpa using h, by simp⟩
theorem r_is_look {f3 f14 : Nat} (h3 : Fn C f3 STupleOf) (h14 : Fn C f14 SLot) : SLook (evF C [] 2 [.ret (.and_ (.call f3 [.slot 1, .cst (.int 2)]) (.and_ (.call f14 [.slot 0, .tup [.idx (.slot 1) (.cst (.int 0))]]) (.isi (.idx (.slot 1) (.cst (.int 1))) [.bool])))]) := fun m as x ha hx => by
  refine evF_eq (η' := [some (H false m as), some (enc x)]) ?_ (outs_nil _)
  have e3 : C.fs f3 [enc x, .int (2 : Nat)] = .ok (.bl true, []) := h3.sp [enc x.1, enc x.2] 2 (by simp)
  have e14 : C.fs f14 [H false m as, .tup [enc x.1]] = .ok (.bl true, []) := by
    have := h14.sp m as [x.1] (by simp)
    rw [isLotB_of ha (lot_one hx)] at this
    exact this
  simp at e3
  have hi : isiT C.cl (.bl x.2) [.bool] = some (.bl true) := rfl
  simp [h3.io, h14.io, callF, e3, e14, hi]
def SIsSeen (f : FS) : Prop := ∀ (m : Nat) (as : List Pr) (s : List Lk), Arr m as → Seen as s → f [H false m as, .tup (s.map enc)] = .ok (.bl true, [])
/-- ascending, of a list too -/
def SAscL (f : FS) : Prop := ∀ l : List Pr, l.length ≤ 1000 → f [.lst false (l.map enc)] = .ok (.bl (isAsc l), [])
theorem slc_tailL (ts : List T) : slcT (.lst false ts) (.int 1) .non = some (.lst true ts.tail) := by
  have : optI (.int 1) = some (some 1) := by simp only [optI]; rw [if_pos (by omega)]
  cases ts with
  | nil => simp [slcT, this, optI, cut, sIx]
  | cons t ts =>
    have e : min 1 (ts.length + 1) = 1 := by omega
    simp [slcT, this, optI, cut, sIx, e]
theorem r_are_ascendingL (hp : C.pin = []) : SAscL (evF C [] 3 [.ret (.bf .all [.lc (.cmp .Lt (.slot 1) (.slot 2)) (.t [.s 1, .s 2]) (.zip (.slot 0) (.slc (.slot 0) (.cst (.int 1)) (.omit))) [] [1, 2]])]) := fun l hl => by
  refine evF_eq (η' := [some (.lst false (l.map enc)), none, none]) ?_ (outs_nil _)
  have hlc : evE C (.lc (.cmp .Lt (.slot 1) (.slot 2)) (.t [.s 1, .s 2]) (.zip (.slot 0) (.slc (.slot 0) (.cst (.int 1)) (.omit))) [] [1, 2]) [some (.lst false (l.map enc)), none, none] =
      .ok (.v (.lst true ((l.zip l.tail).map fun x => .bl (Enc.lt x.1 x.2))), [some (.lst false (l.map enc)), none, none]) := by
    rw [lc_map enc (fun x : Pr × Pr => .bl (Enc.lt x.1 x.2)) (l.zip l.tail) (η1 := [some (.lst false (l.map enc)), none, none])]
    · simp
    · simp [slc_tailL, ← List.map_tail, List.zip_map, enc_pair]
    · simp [plainSl, hp]
    · simp [sizeL]; omega
    · intro x _
      simp [turnL, c_ltE (α := Pr) (by decide)]
  have ha : bfT .all [.lst true ((l.zip l.tail).map fun x => T.bl (Enc.lt x.1 x.2))] = some (.bl (isAsc l)) := all_bls true (fun x : Pr × Pr => Enc.lt x.1 x.2) (l.zip l.tail)
  have hf : fzs ((l.zip l.tail).map fun x => T.bl (Enc.lt x.1 x.2)) = true := fzs_bls (fun x : Pr × Pr => Enc.lt x.1 x.2) _
  simp [hlc, ha, hf]
theorem r_is_seen {f5 f15 : Nat} (hp : C.pin = []) (h5 : Fn C f5 SAscL) (h15 : Fn C f15 SLook) : SIsSeen (evF C [] 5 [.ife (.tor (.tnot (.isi (.slot 1) [.tuple])) (.tnot (.bf .all [.lc (.call f15 [.slot 0, .slot 4]) (.s 4) (.val (.slot 1)) [] [4]]))) [.ret (.cst (.bl false))] [], .ret (.call f5 [.lc (.slot 2) (.t [.s 2, .s 3]) (.val (.slot 1)) [] [2, 3]])]) := fun m as s ha hs => by
  have hsl := Nat.le_trans hs.len ha.len
  obtain ⟨M, hM⟩ : ∃ M, M = s.map (·.1) := ⟨_, rfl⟩
  refine evF_eq (η' := [some (H false m as), some (.tup (s.map enc)), none, none, none]) ?_ (outs_nil _)
  have l1 : evE C (.lc (.call f15 [.slot 0, .slot 4]) (.s 4) (.val (.slot 1)) [] [4]) [some (H false m as), some (.tup (s.map enc)), none, none, none] = .ok (.v (.lst true (s.map fun _ => .bl true)), [some (H false m as), some (.tup (s.map enc)), none, none, none]) := by
    rw [lc_map enc (fun _ : Lk => .bl true) s (η1 := [some (H false m as), some (.tup (s.map enc)), none, none, none])]
    · simp
    · simp
    · simp [plainSl, hp]
    · simp only [sizeL]; omega
    · intro x hx
      have := h15.sp m as x ha (hs.sub x hx)
      simp [turnL, h15.io, callF, this]
  have l2 : evE C (.lc (.slot 2) (.t [.s 2, .s 3]) (.val (.slot 1)) [] [2, 3]) [some (H false m as), some (.tup (s.map enc)), none, none, none] = .ok (.v (.lst true (M.map enc)), [some (H false m as), some (.tup (s.map enc)), none, none, none]) := by
    rw [lc_map enc (fun x : Lk => enc x.1) s (η1 := [some (H false m as), some (.tup (s.map enc)), none, none, none])]
    · simp [hM]
    · simp
    · simp [plainSl, hp]
    · simp only [sizeL]; omega
    · intro x hx
      simp [turnL]
  have e5 := h5.sp M (by rw [hM, List.length_map]; exact hsl)
  have hMa : isAsc M = true := isAsc_of (by rw [hM]; exact hs.lot.asc)
  rw [hMa] at e5
  have ha2 : bfT .all [.lst true (s.map fun _ => T.bl true)] = some (.bl true) := by
    refine (all_bls true (fun _ : Lk => true) s).trans ?_
    rw [List.all_eq_true.mpr fun _ _ => rfl]
  have hf2 : fzs (s.map fun _ => T.bl true) = true := fzs_bls (fun _ : Lk => true) s
  obtain ⟨A, hA⟩ : ∃ A, A = s.map fun _ => T.bl true := ⟨_, rfl⟩
  rw [← hA] at l1 ha2 hf2
  simp [isiT, tyOf, kitN, tyIn, l1, ha2, hf2, l2, h5.io, callF, e5]
def SChkS (f : FS) : Prop := ∀ (m : Nat) (as : List Pr) (s : List Lk), Arr m as → Seen as s → f [H false m as, .tup (s.map enc)] = .ok (.non, [])
theorem r_check_seen {f16 : Nat} {e : List CS} (h16 : Fn C f16 SIsSeen) : SChkS (evF C [] 2 [.ife (.tnot (.call f16 [.slot 0, .slot 1])) e []]) := fun m as s ha hs => by
  refine evF_nx (η' := [some (H false m as), some (.tup (s.map enc))]) ?_ (outs_nil _)
  have h1 := h16.sp m as s ha hs
  simp [h16.io, callF, h1]
def SSure (f : FS) : Prop := ∀ (m : Nat) (as : List Pr) (s : List Lk), 1 ≤ m → m ≤ 1000 → Arr m as → Seen as s → f [H false m as, .tup (s.map enc)] = .ok (sureT (sureP as (s.map seenPr)), [])
theorem r_raw_sure {f12 f13 f18 : Nat} (hp : C.pin = []) (hc : C.cl.contains 0 = true) (h12 : Fn C f12 SReach) (h13 : Fn C f13 SOrd) (h18 : Fn C f18 SSeenP) : SSure (evF C [] 7 [.asg false (.s 2) (.call f18 [.slot 1]), .ife (.cmp .Is (.call f13 [.att (.slot 0) "many", .slot 2]) (.cst .non)) [.ret (.cst .non)] [], .asg false (.s 3) (.lc (.call f12 [.att (.slot 0) "many", .slot 2, .slot 5]) (.s 5) (.rng [.att (.slot 0) "many"]) [] [5]),
    .asg false (.s 4) (.bf .tuple [.lc (.slot 6) (.s 6) (.val (.att (.slot 0) "arrows")) [.cmp .In (.idx (.slot 6) (.cst (.int 0))) (.idx (.slot 3) (.idx (.slot 6) (.cst (.int 1))))] [6]]), .ret (.tup [.slot 4, .bf .tuple [.lc (.slot 6) (.s 6) (.val (.att (.slot 0) "arrows")) [.cmp .In (.idx (.slot 6) (.cst (.int 1))) (.idx (.slot 3) (.idx (.slot 6) (.cst (.int 0))))] [6]]])]) := fun m as s hm1 hm ha hs => by
  have hsl := Nat.le_trans hs.len ha.len
  have hbd := seen_bound ha hs
  obtain ⟨ps, hps⟩ : ∃ ps, ps = s.map seenPr := ⟨_, rfl⟩
  rw [← hps] at hbd ⊢
  have hpl : ps.length ≤ 1000 := by rw [hps, List.length_map]; exact hsl
  have e18 := h18.sp s hsl _ rfl
  rw [← hps] at e18
  obtain ⟨r, e13, hr⟩ := h13.sp m ps (.lst false (ps.map enc)) (SeqP.lst ps) hm hpl hbd
  have key : ∀ v, ∃ F : List Nat, v < m → C.fs f12 [.int m, .lst false (ps.map enc), .int v] = .ok (dK F false, []) ∧ ∀ u, u ∈ F ↔ Rch ps v u := fun v => by
    by_cases hv : v < m
    · obtain ⟨F, h1, h2⟩ := h12.sp m ps (.lst false (ps.map enc)) v (SeqP.lst ps) hm hpl hbd hv
      exact ⟨F, fun _ => ⟨h1, h2⟩⟩
    · exact ⟨[], fun h => absurd h hv⟩
  obtain ⟨G, hG⟩ := Classical.axiomOfChoice key
  by_cases hac : Acyc ps
  · have hrs : r.isSome = true := hr.mpr hac
    have hsp : sureP as ps = some (as.filter fun a => decide (a.1 ∈ G a.2), as.filter fun a => decide (a.2 ∈ G a.1)) := by
      unfold sureP
      rw [if_pos hac]
      congr 2
      · refine List.filter_congr fun a haa => ?_
        have := (hG a.2 (ha.ok a haa).2.1).2 a.1
        by_cases z : a.1 ∈ G a.2
        · simp [z, this.mp z]
        · have zn := fun w => z (this.mpr w); simp [z]; exact zn
      · refine List.filter_congr fun a haa => ?_
        have := (hG a.1 (ha.ok a haa).1).2 a.2
        by_cases z : a.2 ∈ G a.1
        · simp [z, this.mp z]
        · have zn := fun w => z (this.mpr w); simp [z]; exact zn
    rw [hsp]
    obtain ⟨D, hD⟩ : ∃ D, D = (List.range m).map fun v => dK (G v) false := ⟨_, rfl⟩
    have hDf : fzs D = true := fzs_of fun t ht => by
      rw [hD] at ht
      obtain ⟨v, _, rfl⟩ := List.mem_map.mp ht
      show (T.dic false _ _).fz = true
      simp only [T.fz]
      rw [List.map_map]
      exact fzs_bls (fun _ => true) (G v)
    have hDg : ∀ v, v < m → D[v]? = some (dK (G v) false) := fun v hv => by rw [hD]; simp [hv]
    have hDl : D.length = m := by rw [hD]; simp
    obtain ⟨A, hA⟩ : ∃ A, A = as.filter fun a => decide (a.1 ∈ G a.2) := ⟨_, rfl⟩
    obtain ⟨B, hB⟩ : ∃ B, B = as.filter fun a => decide (a.2 ∈ G a.1) := ⟨_, rfl⟩
    have l3 : evE C (.lc (.call f12 [.att (.slot 0) "many", .slot 2, .slot 5]) (.s 5) (.rng [.att (.slot 0) "many"]) [] [5]) [some (H false m as), some (.tup (s.map enc)), some (.lst false (ps.map enc)), none, none, none, none] =
        .ok (.v (.lst true D), [some (H false m as), some (.tup (s.map enc)), some (.lst false (ps.map enc)), none, none, none, none]) := by
      rw [lc_map enc (fun v => dK (G v) false) (List.range m) (η1 := [some (H false m as), some (.tup (s.map enc)), some (.lst false (ps.map enc)), none, none, none, none])]
      · rw [← hD]; simp
      · exact it_rng1 (o := .v (.int m)) (by simp [att_many hc]) (by simp) (by omega)
      · simp [plainSl, hp]
      · simp [sizeL]; omega
      · intro v hv
        have := (hG v (List.mem_range.mp hv)).1
        simp [turnL, h12.io, callF, att_many hc, this]
    have l4 : ∀ s4, evE C (.lc (.slot 6) (.s 6) (.val (.att (.slot 0) "arrows")) [.cmp .In (.idx (.slot 6) (.cst (.int 0))) (.idx (.slot 3) (.idx (.slot 6) (.cst (.int 1))))] [6]) [some (H false m as), some (.tup (s.map enc)), some (.lst false (ps.map enc)), some (.lst true D), s4, none, none] =
        .ok (.v (.lst true (A.map enc)), [some (H false m as), some (.tup (s.map enc)), some (.lst false (ps.map enc)), some (.lst true D), s4, none, none]) := fun s4 => by
      rw [lc_filter enc enc (fun a : Pr => decide (a.1 ∈ G a.2)) as (η1 := [some (H false m as), some (.tup (s.map enc)), some (.lst false (ps.map enc)), some (.lst true D), s4, none, none])]
      · rw [← hA]; simp
      · simp [att_arrows hc]
      · simp [plainSl, hp]
      · have := ha.len; simp only [sizeL]; omega
      · intro a haa
        have h2 := (ha.ok a haa).2.1
        have hix : ∀ η : Env, η[3]? = some (some (.lst true D)) → idxE η (.pl 3 []) (.int a.2) = some (.v (dK (G a.2) false)) := fun η h => idx_lst h (hDg _ h2) rfl
        have hin : cmpT .In (.int a.1) (dK (G a.2) false) = some (.bl (decide (a.1 ∈ G a.2))) := in_trues false (G a.2) a.1
        have hdf : (dK (G a.2) false).fl = false := rfl
        have hds : (dK (G a.2) false).sh = true := dic_trues_sh _ _
        by_cases z : a.1 ∈ G a.2 <;> simp [turnL, hix, hin, hdf, hds, z]
    have l5 : ∀ s4, evE C (.lc (.slot 6) (.s 6) (.val (.att (.slot 0) "arrows")) [.cmp .In (.idx (.slot 6) (.cst (.int 1))) (.idx (.slot 3) (.idx (.slot 6) (.cst (.int 0))))] [6]) [some (H false m as), some (.tup (s.map enc)), some (.lst false (ps.map enc)), some (.lst true D), s4, none, none] =
        .ok (.v (.lst true (B.map enc)), [some (H false m as), some (.tup (s.map enc)), some (.lst false (ps.map enc)), some (.lst true D), s4, none, none]) := fun s4 => by
      rw [lc_filter enc enc (fun a : Pr => decide (a.2 ∈ G a.1)) as (η1 := [some (H false m as), some (.tup (s.map enc)), some (.lst false (ps.map enc)), some (.lst true D), s4, none, none])]
      · rw [← hB]; simp
      · simp [att_arrows hc]
      · simp [plainSl, hp]
      · have := ha.len; simp only [sizeL]; omega
      · intro a haa
        have h2 := (ha.ok a haa).1
        have hix : ∀ η : Env, η[3]? = some (some (.lst true D)) → idxE η (.pl 3 []) (.int a.1) = some (.v (dK (G a.1) false)) := fun η h => idx_lst h (hDg _ h2) rfl
        have hin : cmpT .In (.int a.2) (dK (G a.1) false) = some (.bl (decide (a.2 ∈ G a.1))) := in_trues false (G a.1) a.2
        have hdf : (dK (G a.1) false).fl = false := rfl
        have hds : (dK (G a.1) false).sh = true := dic_trues_sh _ _
        by_cases z : a.2 ∈ G a.1 <;> simp [turnL, hix, hin, hdf, hds, z]
    refine evF_eq (η' := [some (H false m as), some (.tup (s.map enc)), some (.lst false (ps.map enc)), some (.lst true D), some (.tup (A.map enc)), none, none]) ?_ (outs_nil _)
    have hnn : r.isNone = false := by cases r <;> simp_all
    simp [h18.io, callF, e18, hp, h13.io, att_many hc, e13, wayT_sh, wayT_non, hnn, l3, l4, l5]
    simp [sureT, hA, hB]
  · have hnn : r.isNone = true := by
      cases r with
      | none => rfl
      | some x => exact absurd (hr.mp rfl) hac
    have hsp : sureP as ps = none := by unfold sureP; rw [if_neg hac]
    rw [hsp]
    refine evF_eq (η' := [some (H false m as), some (.tup (s.map enc)), some (.lst false (ps.map enc)), none, none, none, none]) ?_ (outs_nil _)
    simp [h18.io, callF, e18, hp, h13.io, att_many hc, e13, wayT_sh, wayT_non, hnn, sureT]
theorem r_sure {f17 f19 : Nat} (h17 : Fn C f17 SChkS) (h19 : Fn C f19 SSure) : SSure (evF C [] 2 [.expr (.call f17 [.slot 0, .slot 1]), .ret (.call f19 [.slot 0, .slot 1])]) := fun m as s hm1 hm ha hs => by
  refine evF_eq (η' := [some (H false m as), some (.tup (s.map enc))]) ?_ (outs_nil _)
  have h1 := h17.sp m as s ha hs
  have h2 := h19.sp m as s hm1 hm ha hs
  simp [h17.io, h19.io, callF, h1, h2]
def SSureL (f : FS) : Prop := ∀ (m : Nat) (as : List Pr) (s : List Lk), 1 ≤ m → m ≤ 1000 → Arr m as → Seen as s → f [.int m, .tup (as.map enc), .tup (s.map enc)] = .ok (sureT (sureP as (s.map seenPr)), [])
theorem r_law_sure {f31 f33 f35 : Nat} (hp : C.pin = []) (h31 : Fn C f31 SRingT) (h33 : Fn C f33 SLReach) (h35 : Fn C f35 SSeenP) : SSureL (evF C [] 8 [.asg false (.s 3) (.call f35 [.slot 2]), .ife (.call f31 [.slot 0, .slot 3]) [.ret (.cst .non)] [], .asg false (.s 4) (.lc (.call f33 [.slot 3, .slot 5]) (.s 5) (.rng [.slot 0]) [] [5]),
    .ret (.tup [.bf .tuple [.lc (.tup [.slot 6, .slot 7]) (.t [.s 6, .s 7]) (.val (.slot 1)) [.cmp .In (.slot 6) (.idx (.slot 4) (.slot 7))] [6, 7]], .bf .tuple [.lc (.tup [.slot 6, .slot 7]) (.t [.s 6, .s 7]) (.val (.slot 1)) [.cmp .In (.slot 7) (.idx (.slot 4) (.slot 6))] [6, 7]]])]) := fun m as s hm1 hm ha hs => by
  have hsl := Nat.le_trans hs.len ha.len
  have hbd := seen_bound ha hs
  have hnd := seen_nodup ha hs
  obtain ⟨ps, hps⟩ : ∃ ps, ps = s.map seenPr := ⟨_, rfl⟩
  rw [← hps] at hbd hnd ⊢
  have hpl : ps.length ≤ 1000 := by rw [hps, List.length_map]; exact hsl
  have e35 := h35.sp s hsl _ rfl
  rw [← hps] at e35
  obtain ⟨k, e31, hk⟩ := h31.sp m ps hm1 hm hpl hbd
  have key : ∀ v, ∃ F : List Nat, v < m → C.fs f33 [.lst false (ps.map enc), .int v] = .ok (.lst false (F.map enc), []) ∧ ∀ u, u ∈ F ↔ Rch ps v u := fun v => by
    by_cases hv : v < m
    · obtain ⟨F, h1, h2⟩ := h33.sp m ps v hm hpl hnd hbd hv
      exact ⟨F, fun _ => ⟨h1, h2⟩⟩
    · exact ⟨[], fun h => absurd h hv⟩
  obtain ⟨G, hG⟩ := Classical.axiomOfChoice key
  by_cases hac : Acyc ps
  · have hk' : k = false := hk.mpr hac
    subst hk'
    have hsp : sureP as ps = some (as.filter fun a => decide (a.1 ∈ G a.2), as.filter fun a => decide (a.2 ∈ G a.1)) := by
      unfold sureP
      rw [if_pos hac]
      congr 2
      · refine List.filter_congr fun a haa => ?_
        have := (hG a.2 (ha.ok a haa).2.1).2 a.1
        by_cases z : a.1 ∈ G a.2
        · simp [z, this.mp z]
        · have zn := fun w => z (this.mpr w); simp [z]; exact zn
      · refine List.filter_congr fun a haa => ?_
        have := (hG a.1 (ha.ok a haa).1).2 a.2
        by_cases z : a.2 ∈ G a.1
        · simp [z, this.mp z]
        · have zn := fun w => z (this.mpr w); simp [z]; exact zn
    rw [hsp]
    obtain ⟨D, hD⟩ : ∃ D, D = (List.range m).map fun v => T.lst false ((G v).map enc) := ⟨_, rfl⟩
    have hDf : fzs D = true := fzs_of fun t ht => by
      rw [hD] at ht
      obtain ⟨v, _, rfl⟩ := List.mem_map.mp ht
      simp
    have hDg : ∀ v, v < m → D[v]? = some (.lst false ((G v).map enc)) := fun v hv => by rw [hD]; simp [hv]
    have hDl : D.length = m := by rw [hD]; simp
    obtain ⟨A, hA⟩ : ∃ A, A = as.filter fun a => decide (a.1 ∈ G a.2) := ⟨_, rfl⟩
    obtain ⟨B, hB⟩ : ∃ B, B = as.filter fun a => decide (a.2 ∈ G a.1) := ⟨_, rfl⟩
    have l3 : evE C (.lc (.call f33 [.slot 3, .slot 5]) (.s 5) (.rng [.slot 0]) [] [5]) [some (.int m), some (.tup (as.map enc)), some (.tup (s.map enc)), some (.lst false (ps.map enc)), none, none, none, none] =
        .ok (.v (.lst true D), [some (.int m), some (.tup (as.map enc)), some (.tup (s.map enc)), some (.lst false (ps.map enc)), none, none, none, none]) := by
      rw [lc_map enc (fun v => T.lst false ((G v).map enc)) (List.range m) (η1 := [some (.int m), some (.tup (as.map enc)), some (.tup (s.map enc)), some (.lst false (ps.map enc)), none, none, none, none])]
      · rw [← hD]; simp
      · exact it_rng1 (o := .v (.int m)) (by simp) (by simp) (by omega)
      · simp [plainSl, hp]
      · simp [sizeL]; omega
      · intro v hv
        have := (hG v (List.mem_range.mp hv)).1
        simp [turnL, h33.io, callF, this]
    have l4 : evE C (.lc (.tup [.slot 6, .slot 7]) (.t [.s 6, .s 7]) (.val (.slot 1)) [.cmp .In (.slot 6) (.idx (.slot 4) (.slot 7))] [6, 7]) [some (.int m), some (.tup (as.map enc)), some (.tup (s.map enc)), some (.lst false (ps.map enc)), some (.lst true D), none, none, none] =
        .ok (.v (.lst true (A.map enc)), [some (.int m), some (.tup (as.map enc)), some (.tup (s.map enc)), some (.lst false (ps.map enc)), some (.lst true D), none, none, none]) := by
      rw [lc_filter enc enc (fun a : Pr => decide (a.1 ∈ G a.2)) as (η1 := [some (.int m), some (.tup (as.map enc)), some (.tup (s.map enc)), some (.lst false (ps.map enc)), some (.lst true D), none, none, none])]
      · rw [← hA]; simp
      · simp
      · simp [plainSl, hp]
      · have := ha.len; simp only [sizeL]; omega
      · intro a haa
        have h2 := (ha.ok a haa).2.1
        have hix : ∀ η : Env, η[4]? = some (some (.lst true D)) → idxE η (.pl 4 []) (.int a.2) = some (.v (.lst false ((G a.2).map enc))) := fun η h => idx_lst h (hDg _ h2) rfl
        have hin : cmpT .In (.int a.1) (.lst false ((G a.2).map enc)) = some (.bl (decide (a.1 ∈ G a.2))) := (c_inL (α := Nat) (by decide) false a.1 (G a.2)).trans (by congr)
        by_cases z : a.1 ∈ G a.2
        · simp [turnL, hix, hin, z] <;> rfl
        · simp [turnL, hix, hin, z]
    have l5 : evE C (.lc (.tup [.slot 6, .slot 7]) (.t [.s 6, .s 7]) (.val (.slot 1)) [.cmp .In (.slot 7) (.idx (.slot 4) (.slot 6))] [6, 7]) [some (.int m), some (.tup (as.map enc)), some (.tup (s.map enc)), some (.lst false (ps.map enc)), some (.lst true D), none, none, none] =
        .ok (.v (.lst true (B.map enc)), [some (.int m), some (.tup (as.map enc)), some (.tup (s.map enc)), some (.lst false (ps.map enc)), some (.lst true D), none, none, none]) := by
      rw [lc_filter enc enc (fun a : Pr => decide (a.2 ∈ G a.1)) as (η1 := [some (.int m), some (.tup (as.map enc)), some (.tup (s.map enc)), some (.lst false (ps.map enc)), some (.lst true D), none, none, none])]
      · rw [← hB]; simp
      · simp
      · simp [plainSl, hp]
      · have := ha.len; simp only [sizeL]; omega
      · intro a haa
        have h2 := (ha.ok a haa).1
        have hix : ∀ η : Env, η[4]? = some (some (.lst true D)) → idxE η (.pl 4 []) (.int a.1) = some (.v (.lst false ((G a.1).map enc))) := fun η h => idx_lst h (hDg _ h2) rfl
        have hin : cmpT .In (.int a.2) (.lst false ((G a.1).map enc)) = some (.bl (decide (a.2 ∈ G a.1))) := (c_inL (α := Nat) (by decide) false a.2 (G a.1)).trans (by congr)
        by_cases z : a.2 ∈ G a.1
        · simp [turnL, hix, hin, z] <;> rfl
        · simp [turnL, hix, hin, z]
    refine evF_eq (η' := [some (.int m), some (.tup (as.map enc)), some (.tup (s.map enc)), some (.lst false (ps.map enc)), some (.lst true D), none, none, none]) ?_ (outs_nil _)
    simp [h35.io, callF, e35, hp, h31.io, e31, l3, l4, l5]
    simp [sureT, hA, hB]
  · have hk' : k = true := by
      cases k with
      | true => rfl
      | false => exact absurd (hk.mp rfl) hac
    subst hk'
    have hsp : sureP as ps = none := by unfold sureP; rw [if_neg hac]
    rw [hsp]
    refine evF_eq (η' := [some (.int m), some (.tup (as.map enc)), some (.tup (s.map enc)), some (.lst false (ps.map enc)), none, none, none, none]) ?_ (outs_nil _)
    simp [h35.io, callF, e35, hp, h31.io, e31, sureT]
end
end TV
/-! sure ties: what is plain about them; the law's own defs -/
namespace TV
open PySem L2
open Enc (enc)
open Classical in
noncomputable def due0 (as ps : List Pr) : List Pr := as.filter fun a => decide (Rch ps a.2 a.1)
open Classical in
noncomputable def due1 (as ps : List Pr) : List Pr := as.filter fun a => decide (Rch ps a.1 a.2)
theorem sureP_some {as ps : List Pr} (h : Acyc ps) : sureP as ps = some (due0 as ps, due1 as ps) := by unfold sureP; rw [if_pos h]; rfl
theorem sureP_none {as ps : List Pr} (h : ¬ Acyc ps) : sureP as ps = none := by unfold sureP; rw [if_neg h]
theorem mem_due0 {as ps : List Pr} {a : Pr} : a ∈ due0 as ps ↔ a ∈ as ∧ Rch ps a.2 a.1 := by
  classical
  unfold due0; simp [List.mem_filter]
theorem mem_due1 {as ps : List Pr} {a : Pr} : a ∈ due1 as ps ↔ a ∈ as ∧ Rch ps a.1 a.2 := by
  classical
  unfold due1; simp [List.mem_filter]
theorem due_congr {as ps qs : List Pr} (h : ∀ a b, Rch ps a b ↔ Rch qs a b) : due0 as ps = due0 as qs ∧ due1 as ps = due1 as qs := by
  constructor
  · unfold due0; exact List.filter_congr fun a _ => by simp [h]
  · unfold due1; exact List.filter_congr fun a _ => by simp [h]
theorem due_len (as ps : List Pr) : (due0 as ps).length ≤ as.length ∧ (due1 as ps).length ≤ as.length := ⟨List.length_filter_le _ _, List.length_filter_le _ _⟩
section
variable {m : Nat} {as ps : List Pr} {s : List Lk}
theorem due_apart (ha : Arr m as) (hac : Acyc ps) {a : Pr} (h0 : a ∈ due0 as ps) (h1 : a ∈ due1 as ps) : False := by
  obtain ⟨r, hr⟩ := hac
  obtain ⟨h2, q0⟩ := mem_due0.mp h0
  obtain ⟨_, q1⟩ := mem_due1.mp h1
  have hne := (ha.ok a h2).2.2
  rcases q0.le hr with e | e
  · exact hne e.symm
  · rcases q1.le hr with e' | e'
    · exact hne e'
    · omega
theorem seen_due (hs : Seen as s) {x : Lk} (hx : x ∈ s) : if x.2 then x.1 ∈ due0 as (s.map seenPr) else x.1 ∈ due1 as (s.map seenPr) := by
  obtain ⟨a, b⟩ := x
  have hm : seenPr (a, b) ∈ s.map seenPr := List.mem_map.mpr ⟨_, hx, rfl⟩
  cases b
  · refine mem_due1.mpr ⟨hs.sub _ hx, ?_⟩
    exact Rch.refl.step hm
  · refine mem_due0.mpr ⟨hs.sub _ hx, ?_⟩
    exact Rch.refl.step hm
/-- looks in the order of their arrows -/
theorem seen_srt {fl : List Lk} (hsub : ∀ x ∈ fl, x.1 ∈ as) (hnd : (fl.map (·.1)).Nodup) : Seen as (srt fl) := by
  refine ⟨fun x hx => hsub x (mem_srt.mp hx), ?_⟩
  have h1 : ((srt fl).map (·.1)).Nodup := ((srt_perm fl).map _).nodup_iff.mpr hnd
  rw [List.Nodup, List.pairwise_map] at h1
  refine List.Pairwise.imp₂ (fun {x y} hle hne => ?_) (srt_sorted fl) h1
  obtain ⟨a, b⟩ := x; obtain ⟨c, d⟩ := y
  dsimp only at hne ⊢
  have hle' : Enc.lt (c, d) (a, b) = false := by unfold leE at hle; simpa using hle
  have h3 : Enc.lt c a = false := by
    have : Enc.lt (c, d) (a, b) = if c = a then Enc.lt d b else Enc.lt c a := rfl
    rw [this, if_neg (Ne.symm hne)] at hle'
    exact hle'
  cases e : Enc.lt a c with
  | true => rfl
  | false => exact absurd (Enc.co a c e h3) hne
noncomputable def flagsP (as ps : List Pr) : List Lk := (due0 as ps).map (fun a => (a, true)) ++ (due1 as ps).map fun a => (a, false)
theorem flags_seen (ha : Arr m as) (hac : Acyc ps) : Seen as (srt (flagsP as ps)) := by
  refine seen_srt (fun x hx => ?_) ?_
  · rcases List.mem_append.mp hx with h | h
    · obtain ⟨a, h1, rfl⟩ := List.mem_map.mp h
      exact (mem_due0.mp h1).1
    · obtain ⟨a, h1, rfl⟩ := List.mem_map.mp h
      exact (mem_due1.mp h1).1
  · have hnd : as.Nodup := (ha.ap).imp fun {p q} e => e.1
    unfold flagsP
    rw [List.map_append, List.map_map, List.map_map]
    have e0 : ((fun x : Lk => x.1) ∘ fun a : Pr => (a, true)) = id := rfl
    have e1 : ((fun x : Lk => x.1) ∘ fun a : Pr => (a, false)) = id := rfl
    rw [e0, e1, List.map_id, List.map_id]
    exact List.nodup_append.mpr ⟨hnd.filter _, hnd.filter _, fun a h0 b h1 e => due_apart ha hac h0 (e ▸ h1)⟩
theorem flags_rch (hs : Seen as s) : ∀ a b, Rch ((srt (flagsP as (s.map seenPr))).map seenPr) a b ↔ Rch (s.map seenPr) a b := fun a b => by
  constructor
  · refine Rch.mono fun p hp => ?_
    obtain ⟨x, hx, rfl⟩ := List.mem_map.mp hp
    rcases List.mem_append.mp (mem_srt.mp hx) with h | h
    · obtain ⟨c, h1, rfl⟩ := List.mem_map.mp h
      exact (mem_due0.mp h1).2
    · obtain ⟨c, h1, rfl⟩ := List.mem_map.mp h
      exact (mem_due1.mp h1).2
  · refine Rch.mono fun p hp => ?_
    obtain ⟨x, hx, rfl⟩ := List.mem_map.mp hp
    have h := seen_due hs hx
    obtain ⟨c, b⟩ := x
    refine Rch.refl.step (List.mem_map.mpr ⟨(c, b), mem_srt.mpr ?_, rfl⟩)
    unfold flagsP
    cases b
    · exact List.mem_append.mpr (.inr (List.mem_map.mpr ⟨c, h, rfl⟩))
    · exact List.mem_append.mpr (.inl (List.mem_map.mpr ⟨c, h, rfl⟩))
theorem acyc_of_rch {qs : List Pr} (hne : ∀ p ∈ qs, p.1 ≠ p.2) (h : ∀ p ∈ qs, Rch ps p.1 p.2) (hac : Acyc ps) : Acyc qs := by
  obtain ⟨r, hr⟩ := hac
  refine ⟨r, fun p hp => ?_⟩
  rcases (h p hp).le hr with e | e
  · exact absurd e (hne p hp)
  · exact e
theorem seen_ne (ha : Arr m as) (hs : Seen as s) : ∀ p ∈ s.map seenPr, p.1 ≠ p.2 := fun p hp => by
  obtain ⟨x, hx, rfl⟩ := List.mem_map.mp hp
  have := (ha.ok _ (hs.sub x hx)).2.2
  unfold seenPr swp
  split
  · exact Ne.symm this
  · exact this
theorem flags_sure (ha : Arr m as) (hs : Seen as s) (hac : Acyc (s.map seenPr)) : sureP as ((srt (flagsP as (s.map seenPr))).map seenPr) = sureP as (s.map seenPr) := by
  have hac' : Acyc ((srt (flagsP as (s.map seenPr))).map seenPr) := acyc_of_rch (seen_ne ha (flags_seen ha hac)) (fun p hp => (flags_rch hs _ _).mp (Rch.refl.step hp)) hac
  rw [sureP_some hac, sureP_some hac']
  obtain ⟨h1, h2⟩ := due_congr (as := as) (flags_rch hs)
  rw [h1, h2]
def withP (s : List Lk) (a : Pr) (b : Bool) : List Lk := srt ((s.filter fun x => decide (x.1 ≠ a)) ++ [(a, b)])
theorem with_seen (hs : Seen as s) {a : Pr} (haa : a ∈ as) (b : Bool) : Seen as (withP s a b) := by
  refine seen_srt (fun x hx => ?_) ?_
  · rcases List.mem_append.mp hx with h | h
    · exact hs.sub x (List.mem_filter.mp h).1
    · simp only [List.mem_singleton] at h; subst h; exact haa
  · rw [List.map_append, List.nodup_append]
    refine ⟨?_, by simp, fun x hx y hy e => ?_⟩
    · have := hs.lot.nd
      rw [List.Nodup, List.pairwise_map] at this ⊢
      exact this.filter _
    · obtain ⟨z, hz, rfl⟩ := List.mem_map.mp hx
      simp only [List.map_cons, List.map_nil, List.mem_singleton] at hy
      subst hy
      exact of_decide_eq_true (List.mem_filter.mp hz).2 e
theorem with_acyc (ha : Arr m as) (hs : Seen as s) (hac : Acyc (s.map seenPr)) {a : Pr} {b : Bool} (haa : a ∈ as) (hb : b = true ↔ a ∈ due0 as (s.map seenPr)) : Acyc ((withP s a b).map seenPr) ∧ (∀ u v, Rch (s.map seenPr) u v → Rch ((withP s a b).map seenPr) u v) := by
  classical
  have hin : ∀ p ∈ (withP s a b).map seenPr, p ∈ s.map seenPr ∨ p = seenPr (a, b) := fun p hp => by
    obtain ⟨x, hx, rfl⟩ := List.mem_map.mp hp
    rcases List.mem_append.mp (mem_srt.mp hx) with h | h
    · exact .inl (List.mem_map.mpr ⟨x, (List.mem_filter.mp h).1, rfl⟩)
    · simp only [List.mem_singleton] at h; subst h; exact .inr rfl
  constructor
  · obtain ⟨r, hr⟩ := hac
    have hne := (ha.ok a haa).2.2
    cases b with
    | true =>
      have h0 := (mem_due0.mp (hb.mp rfl)).2
      refine ⟨r, fun p hp => ?_⟩
      rcases hin p hp with h | h
      · exact hr p h
      · subst h
        show r a.2 < r a.1
        rcases h0.le hr with e | e
        · exact absurd e.symm hne
        · exact e
    | false =>
      have h0 : ¬ Rch (s.map seenPr) a.2 a.1 := fun z => by
        have := hb.mpr (mem_due0.mpr ⟨haa, z⟩); cases this
      refine ⟨fun x => if Rch (s.map seenPr) a.2 x then r x + (r a.1 + 1) else r x, fun p hp => ?_⟩
      dsimp only
      rcases hin p hp with h | h
      · have := hr p h
        by_cases h1 : Rch (s.map seenPr) a.2 p.1
        · rw [if_pos h1, if_pos (h1.step h)]; omega
        · rw [if_neg h1]
          split <;> omega
      · have e1 : (seenPr (a, false)).1 = a.1 := rfl
        have e2 : (seenPr (a, false)).2 = a.2 := rfl
        rw [h, e1, e2, if_neg h0, if_pos .refl]; omega
  · intro u v
    refine Rch.mono fun p hp => ?_
    obtain ⟨x, hx, rfl⟩ := List.mem_map.mp hp
    refine Rch.refl.step (List.mem_map.mpr ⟨x, mem_srt.mpr ?_, rfl⟩)
    by_cases e : x.1 = a
    · have hd := seen_due hs hx
      obtain ⟨c, d⟩ := x
      dsimp only at e
      subst e
      refine List.mem_append.mpr (.inr ?_)
      have : d = b := by
        cases d with
        | true => exact (hb.mpr hd).symm
        | false =>
          cases b with
          | false => rfl
          | true => exact (due_apart ha hac (hb.mp rfl) hd).elim
      rw [this]; simp
    · exact List.mem_append.mpr (.inl (List.mem_filter.mpr ⟨hx, decide_eq_true e⟩))
theorem due_mono {qs : List Pr} (h : ∀ u v, Rch ps u v → Rch qs u v) : (∀ a ∈ due0 as ps, a ∈ due0 as qs) ∧ ∀ a ∈ due1 as ps, a ∈ due1 as qs :=
  ⟨fun a ha => mem_due0.mpr ⟨(mem_due0.mp ha).1, h _ _ (mem_due0.mp ha).2⟩, fun a ha => mem_due1.mpr ⟨(mem_due1.mp ha).1, h _ _ (mem_due1.mp ha).2⟩⟩
end
section
variable {C : Ctx}
def SWith (f : FS) : Prop := ∀ (s : List Lk) (a : Pr) (b : Bool), s.length ≤ 1000 → f [.tup (s.map enc), enc a, .bl b] = .ok (.tup ((withP s a b).map enc), [])
theorem r_law_with (hp : C.pin = []) : SWith (evF C [] 4 [.ret (.bf .tuple [.bf .sorted [.bin .Add (.lc (.slot 3) (.s 3) (.val (.slot 0)) [.cmp .NotEq (.idx (.slot 3) (.cst (.int 0))) (.slot 1)] [3]) (.lst [.tup [.slot 1, .slot 2]])]])]) := fun s a b hs => by
  obtain ⟨M, hM⟩ : ∃ M, M = s.filter fun x => decide (x.1 ≠ a) := ⟨_, rfl⟩
  obtain ⟨R, hR⟩ : ∃ R, R = M ++ [(a, b)] := ⟨_, rfl⟩
  have hMl : M.length ≤ 1000 := by rw [hM]; exact Nat.le_trans (List.length_filter_le _ _) hs
  refine evF_eq (η' := [some (.tup (s.map enc)), some (enc a), some (.bl b), none]) ?_ (outs_nil _)
  have l1 : evE C (.lc (.slot 3) (.s 3) (.val (.slot 0)) [.cmp .NotEq (.idx (.slot 3) (.cst (.int 0))) (.slot 1)] [3]) [some (.tup (s.map enc)), some (enc a), some (.bl b), none] = .ok (.v (.lst true (M.map enc)), [some (.tup (s.map enc)), some (enc a), some (.bl b), none]) := by
    rw [lc_filter enc enc (fun x : Lk => decide (x.1 ≠ a)) s (η1 := [some (.tup (s.map enc)), some (enc a), some (.bl b), none])]
    · rw [← hM]; simp
    · simp
    · simp [plainSl, hp]
    · simp only [sizeL]; omega
    · intro x _
      by_cases e : x.1 = a <;> simp [turnL, c_neE (α := Pr) (by decide), e]
  have hadd : binT .Add (.lst true (M.map enc)) (.lst true [.tup [enc a, .bl b]]) = some (.lst true (R.map enc)) := by
    simp only [binT]
    rw [if_pos (by rw [List.length_map]; simp only [sizeL, List.length_cons, List.length_nil]; omega)]
    rw [hR, List.map_append]; rfl
  have hsR : bfT .sorted [.lst true (R.map enc)] = some (.lst true ((srt R).map enc)) := f_sortP (α := Pr) (β := Bool) (by decide) R rfl
  have hw : withP s a b = srt R := by rw [hR, hM]; rfl
  rw [hw]
  simp [l1, hadd, hsR]
/-- what a law compares, one level deep after another -/
def SIs0 (f : FS) : Prop := (∀ n : Int, f [.int n, .int n] = .ok (.bl true, [])) ∧ f [.non, .non] = .ok (.bl true, [])
theorem r_is0 {x : List CS} {y : List CS} : SIs0 (evF C [] 4 [.ife (.isi (.slot 1) [.tuple, .list]) x [], .ife (.isi (.slot 1) [.dict]) y [], .ret (.and_ (.cmp .Eq (.isi (.slot 0) [.bool]) (.isi (.slot 1) [.bool])) (.cmp .Eq (.slot 0) (.slot 1)))]) := by
  constructor
  · intro n
    refine evF_eq (η' := [some (.int n), some (.int n), none, none]) ?_ (outs_nil _)
    have i1 : isiT C.cl (.int n) [.tuple, .list] = some (.bl false) := rfl
    have i2 : isiT C.cl (.int n) [.dict] = some (.bl false) := rfl
    have i3 : isiT C.cl (.int n) [.bool] = some (.bl false) := rfl
    simp [i1, i2, i3, c_eqB]
  · refine evF_eq (η' := [some .non, some .non, none, none]) ?_ (outs_nil _)
    have : cmpT .Eq .non .non = some (.bl true) := rfl
    have i1 : isiT C.cl .non [.tuple, .list] = some (.bl false) := rfl
    have i2 : isiT C.cl .non [.dict] = some (.bl false) := rfl
    have i3 : isiT C.cl .non [.bool] = some (.bl false) := rfl
    simp [i1, i2, i3, c_eqB, this]
/-- alike tuples, when their items are -/
def SIsT (f : FS) (P : T → Prop) : Prop := ∀ ts : List T, fzs ts = true → ts.length ≤ 1000 → (∀ t ∈ ts, P t) → f [.tup ts, .tup ts] = .ok (.bl true, [])
def SRefl (f : FS) (P : T → Prop) : Prop := ∀ t, P t → t.fz = true ∧ f [t, t] = .ok (.bl true, [])
theorem r_isT {f25 : Nat} {P : T → Prop} {x : List CS} (hp : C.pin = []) (hio : C.io f25 = []) (h25 : SRefl (C.fs f25) P) : SIsT (evF C [] 4 [.ife (.isi (.slot 1) [.tuple, .list]) [.ife (.tor (.cmp .NotEq (.isi (.slot 0) [.tuple]) (.isi (.slot 1) [.tuple])) (.cmp .NotEq (.isi (.slot 0) [.list]) (.isi (.slot 1) [.list]))) [.ret (.cst (.bl false))] [],
    .ret (.and_ (.cmp .Eq (.bf .len [.slot 0]) (.bf .len [.slot 1])) (.bf .all [.lc (.call f25 [.idx (.slot 0) (.slot 2), .idx (.slot 1) (.slot 2)]) (.s 2) (.rng [.bf .len [.slot 1]]) [] [2]]))] [], .ife (.isi (.slot 1) [.dict]) x [], .ret (.and_ (.cmp .Eq (.isi (.slot 0) [.bool]) (.isi (.slot 1) [.bool])) (.cmp .Eq (.slot 0) (.slot 1)))]) P := fun ts hz hl hP => by
  refine evF_eq (η' := [some (.tup ts), some (.tup ts), none, none]) ?_ (outs_nil _)
  have l1 : evE C (.lc (.call f25 [.idx (.slot 0) (.slot 2), .idx (.slot 1) (.slot 2)]) (.s 2) (.rng [.bf .len [.slot 1]]) [] [2]) [some (.tup ts), some (.tup ts), none, none] = .ok (.v (.lst true ((List.range ts.length).map fun _ => .bl true)), [some (.tup ts), some (.tup ts), none, none]) := by
    rw [lc_map enc (fun _ => .bl true) (List.range ts.length) (η1 := [some (.tup ts), some (.tup ts), none, none])]
    · simp
    · exact it_rng1 (o := .v (.int ts.length)) (by simp [hz]) (by simp) (by omega)
    · simp [plainSl, hp]
    · simp only [List.length_range, sizeL]; omega
    · intro i hi
      have him := List.mem_range.mp hi
      have hc : childOf (.tup ts) (.int i) = some i := child_tup him
      have hx : ts[i]? = some ts[i] := List.getElem?_eq_getElem him
      obtain ⟨q1, q2⟩ := h25 ts[i] (hP _ (List.getElem_mem him))
      have q3 : ts[i].frz = ts[i] := frz_id _ q1
      obtain ⟨z, hzz⟩ : ∃ z, z = ts[i] := ⟨_, rfl⟩
      rw [← hzz] at hx q2 q3
      simp [turnL, hio, idxE, hz, hc, hx, callF, q2, q3]
  have ha : bfT .all [.lst true ((List.range ts.length).map fun _ => T.bl true)] = some (.bl true) := by
    refine (all_bls true (fun _ : Nat => true) (List.range ts.length)).trans ?_
    rw [List.all_eq_true.mpr fun _ _ => rfl]
  have hf : fzs ((List.range ts.length).map fun _ => T.bl true) = true := fzs_bls (fun _ : Nat => true) _
  obtain ⟨A, hA⟩ : ∃ A, A = (List.range ts.length).map fun _ => T.bl true := ⟨_, rfl⟩
  rw [← hA] at l1 ha hf
  have i1 : isiT C.cl (.tup ts) [.tuple, .list] = some (.bl true) := rfl
  have i2 : isiT C.cl (.tup ts) [.tuple] = some (.bl true) := rfl
  have i3 : isiT C.cl (.tup ts) [.list] = some (.bl false) := rfl
  simp [i1, i2, i3, hz, c_neB, l1, ha, hf]
theorem r_isN {x y : List CS} : (evF C [] 4 [.ife (.isi (.slot 1) [.tuple, .list]) x [], .ife (.isi (.slot 1) [.dict]) y [], .ret (.and_ (.cmp .Eq (.isi (.slot 0) [.bool]) (.isi (.slot 1) [.bool])) (.cmp .Eq (.slot 0) (.slot 1)))]) [.non, .non] = .ok (.bl true, []) := (r_is0 (x := x) (y := y)).2
def SFlag (f : FS) : Prop := f [.bl true, .bl true] = .ok (.bl true, [])
theorem r_law_flag : SFlag (evF C [] 2 [.ret (.and_ (.isi (.slot 0) [.bool]) (.cmp .Eq (.slot 0) (.slot 1)))]) := by
  refine evF_eq (η' := [some (.bl true), some (.bl true)]) ?_ (outs_nil _)
  simp [isiT, tyOf, kitN, tyIn, c_eqB]
/-- the arrows that stand the other way about in a row -/
def SFrom (f : FS) : Prop := ∀ (as : List Pr) (row : List Nat), as.length ≤ 1000 → (∀ p ∈ as, p.1 ∈ row ∧ p.2 ∈ row) → ∃ l : List Pr, f [.tup (as.map enc), .lst false (row.map enc)] = .ok (.tup (l.map enc), [])
theorem index_nat (o : Bool) {row : List Nat} {v : Nat} (h : v ∈ row) : bmR .index [.lst o (row.map enc), .int v] = some (.int (row.idxOf v)) := by
  have key : (row.map enc).findIdx? (fun y => eqT y (.int v)) = some (row.idxOf v) := by
    induction row with
    | nil => simp at h
    | cons x row ih =>
      rw [List.map_cons, List.findIdx?_cons]
      have e : eqT (enc x) (.int v) = decide (x = v) := eqT_enc x v
      rw [e]
      by_cases hx : x = v
      · subst hx; simp
      · have hx2 : v ≠ x := Ne.symm hx
        simp only [hx, decide_false, Bool.false_eq_true, if_false]
        have hb : (x == v) = false := by simpa using hx
        rw [ih (by simpa [hx2] using h), List.idxOf_cons, hb]; rfl
  have hd : (T.lst o (row.map enc)).data = true := data_lst (by decide) o row
  simp only [bmR, hd, dataI, Bool.and_self, if_true, key, Option.map_some]
theorem r_law_from (hp : C.pin = []) : SFrom (evF C [] 4 [.ret (.bf .tuple [.lc (.tup [.slot 2, .slot 3]) (.t [.s 2, .s 3]) (.val (.slot 0)) [.cmp .Lt (.bm .index (.slot 1) [.slot 3]) (.bm .index (.slot 1) [.slot 2])] [2, 3]])]) := fun as row ha hr => by
  obtain ⟨M, hM⟩ : ∃ M, M = as.filter fun p => decide (row.idxOf p.2 < row.idxOf p.1) := ⟨_, rfl⟩
  refine ⟨M, evF_eq (η' := [some (.tup (as.map enc)), some (.lst false (row.map enc)), none, none]) ?_ (outs_nil _)⟩
  have l1 : evE C (.lc (.tup [.slot 2, .slot 3]) (.t [.s 2, .s 3]) (.val (.slot 0)) [.cmp .Lt (.bm .index (.slot 1) [.slot 3]) (.bm .index (.slot 1) [.slot 2])] [2, 3]) [some (.tup (as.map enc)), some (.lst false (row.map enc)), none, none] = .ok (.v (.lst true (M.map enc)), [some (.tup (as.map enc)), some (.lst false (row.map enc)), none, none]) := by
    rw [lc_filter enc enc (fun p : Pr => decide (row.idxOf p.2 < row.idxOf p.1)) as (η1 := [some (.tup (as.map enc)), some (.lst false (row.map enc)), none, none])]
    · rw [← hM]; simp
    · simp
    · simp [plainSl, hp]
    · simp only [sizeL]; omega
    · intro p hpp
      obtain ⟨h1, h2⟩ := hr p hpp
      have e1 := index_nat false h1
      have e2 := index_nat false h2
      have hck : ∀ η, chkB .index (.v (.lst false (row.map enc))) η = true := fun _ => rfl
      by_cases z : row.idxOf p.2 < row.idxOf p.1
      · have z' : ((row.idxOf p.2 : Nat) : Int) < ((row.idxOf p.1 : Nat) : Int) := by omega
        simp [turnL, evLc, hck, bmGo, bmW, e1, e2, z, z'] <;> rfl
      · have z' : ¬ ((row.idxOf p.2 : Nat) : Int) < ((row.idxOf p.1 : Nat) : Int) := by omega
        simp [turnL, evLc, hck, bmGo, bmW, e1, e2, z, z']
  simp [l1]
/-- drawn looks -/
def SDSeen (f : FS) : Prop := ∀ (h : T) (m : Nat) (as l : List Pr) (r : Nat), HandOk h → Arr m as → 1 ≤ r → r ≤ 1000 → ∃ (s : List Lk) (h' : T), f [h, .tup (as.map enc), .tup (l.map enc), .int r] = .ok (.tup (s.map enc), [some h']) ∧ Seen as s ∧ HandOk h'
theorem r_law_seen {f22 : Nat} (hp : C.pin = [0]) (hio : C.io f22 = [true]) (h22 : SDraw (C.fs f22)) : SDSeen (evF C [true] 5 [.ret (.bf .tuple [.lc (.tup [.slot 4, .cmp .In (.slot 4) (.slot 2)]) (.s 4) (.val (.slot 1)) [.cmp .Eq (.call f22 [.slot 0, .slot 3]) (.cst (.int 0))] [4]])]) := fun h m as l r k ha hr1 hr2 => by
  obtain ⟨η', acc', e1, h', s, rfl, rfl, hsub, k'⟩ := lcL_run (f := turnL C (.tup [.slot 4, .cmp .In (.slot 4) (.slot 2)]) (.s 4) [.cmp .Eq (.call f22 [.slot 0, .slot 3]) (.cst (.int 0))] [4]) (as.map enc)
    (fun i η acc => ∃ (h' : T) (s : List Lk), η = [some h', some (.tup (as.map enc)), some (.tup (l.map enc)), some (.int r), none] ∧ acc = s.map enc ∧ (s.map (·.1)).Sublist (as.take i) ∧ HandOk h')
    (η := [some h, some (.tup (as.map enc)), some (.tup (l.map enc)), some (.int r), none]) (acc := []) ⟨h, [], rfl, rfl, by simp, k⟩ (by have := ha.len; simp [sizeL]; omega) (by
      rintro i t η acc hi ⟨h', s, rfl, rfl, hsub, k'⟩
      rw [List.getElem?_map] at hi
      obtain ⟨a, hai, rfl⟩ := Option.map_eq_some_iff.mp hi
      have htk : as.take (i + 1) = as.take i ++ [a] := by rw [List.take_add_one, hai, Option.toList_some]
      obtain ⟨d, h'', e, hd, k''⟩ := callF_draw (f := C.fs f22) h22 (m := r) (η := [some h', some (.tup (as.map enc)), some (.tup (l.map enc)), some (.int r), some (enc a)]) k' hr1 (by omega) 0 rfl
      simp only [List.set_cons_zero] at e
      have hin : cmpT .In (enc a) (.tup (l.map enc)) = some (.bl (decide (a ∈ l))) := (c_inT (α := Pr) (by decide) a l).trans (by congr)
      by_cases hz : d = 0
      · refine ⟨some (enc ((a, decide (a ∈ l)) : Lk)), [some h'', some (.tup (as.map enc)), some (.tup (l.map enc)), some (.int r), none], ?_, h'', s ++ [(a, decide (a ∈ l))], rfl, by simp, ?_, k''⟩
        · simp [turnL, k'.fl, hio, e, hz, hin] <;> rfl
        · rw [htk, List.map_append]; exact hsub.append (List.Sublist.refl _)
      · refine ⟨none, [some h'', some (.tup (as.map enc)), some (.tup (l.map enc)), some (.int r), none], ?_, h'', s, rfl, by simp, ?_, k''⟩
        · simp [turnL, k'.fl, hio, e, hz]
        · rw [htk]; exact hsub.trans (List.sublist_append_left _ _))
  rw [List.length_map, List.take_length] at hsub
  refine ⟨s, h', ?_, ⟨fun x hx => hsub.subset (List.mem_map.mpr ⟨x, hx, rfl⟩), List.pairwise_map.mp (ha.asc.sublist hsub)⟩, k'⟩
  refine evF_eq (η' := [some h', some (.tup (as.map enc)), some (.tup (l.map enc)), some (.int r), none]) ?_ rfl
  have l1 : evE C (.lc (.tup [.slot 4, .cmp .In (.slot 4) (.slot 2)]) (.s 4) (.val (.slot 1)) [.cmp .Eq (.call f22 [.slot 0, .slot 3]) (.cst (.int 0))] [4]) [some h, some (.tup (as.map enc)), some (.tup (l.map enc)), some (.int r), none] = .ok (.v (.lst true (s.map enc)), [some h', some (.tup (as.map enc)), some (.tup (l.map enc)), some (.int r), none]) := by
    rw [lc_eq, show evIt C (.val (.slot 1)) [some h, some (.tup (as.map enc)), some (.tup (l.map enc)), some (.int r), none] = .ok (as.map enc, [some h, some (.tup (as.map enc)), some (.tup (l.map enc)), some (.int r), none]) by simp]
    simp only [rb_ok]
    rw [if_pos (by simp [plainSl, hp])]
    simp only [wipe_nil, wipe_cons, List.set_cons_succ, List.set_cons_zero, e1]
    simp
  simp [l1]
end
end TV
/-! the defs of the law, as core terms (printed by gen.py) -/
namespace TV.K52
open PySem L2 TV
def topS (i : Nat) : Stmt := PySem.Challenge.pw_turnedapart_k52_whole_sure_ties_of_great.main.body.getD i (.Pass ⟨0, 0, 0, 0⟩)
def b0 : List CS := -- is_integer ['thing']
  [.ret (.and_ (.isi (.slot 0) [.int]) (.not_ (.isi (.slot 0) [.bool])))]
def b1 : List CS := -- is_between ['thing', 'least', 'most']
  [.ret (.and_ (.call 0 [.slot 0]) (.chain .LtE .LtE (.slot 1) (.slot 0) (.slot 2)))]
def b2 : List CS := -- is_index ['thing', 'many']
  [.ret (.call 1 [.slot 0, .cst (.int 0), .bin .Sub (.slot 1) (.cst (.int 1))])]
def b3 : List CS := -- is_tuple_of ['thing', 'many']
  [.ret (.and_ (.isi (.slot 0) [.tuple]) (.cmp .Eq (.bf .len [.slot 0]) (.slot 1)))]
def b4 : List CS := -- is_pair ['thing', 'many', 'item']
  [.ret (.and_ (.call 3 [.slot 0, .cst (.int 2)]) (.and_ (.bf .all [.lc (.call 2 [.slot 2, .slot 1]) (.s 2) (.val (.slot 0)) [] [2]]) (.cmp .NotEq (.idx (.slot 0) (.cst (.int 0))) (.idx (.slot 0) (.cst (.int 1))))))]
def b5 : List CS := -- are_ascending ['things', 'one', 'other']
  [.ret (.bf .all [.lc (.cmp .Lt (.slot 1) (.slot 2)) (.t [.s 1, .s 2]) (.zip (.slot 0) (.slc (.slot 0) (.cst (.int 1)) (.omit))) [] [1, 2]])]
def b6 : List CS := -- are_arrows ['many', 'thing', 'pair']
  [.ife (.tor (.tnot (.isi (.slot 1) [.tuple])) (.tnot (.bf .all [.lc (.call 4 [.slot 2, .slot 0]) (.s 2) (.val (.slot 1)) [] [2]]))) [.ret (.cst (.bl false))] [], .ret (.cmp .Eq (.bf .len [.dc (.bf .tuple [.bf .sorted [.slot 2]]) (.cst (.bl true)) (.s 2) (.val (.slot 1)) [] [2]]) (.bf .len [.slot 1]))]
def b7 : List CS := -- next_things ['many', 'pairs', 'found', 'one', 'other', '_']
  [.asg false (.s 2) (.lc (.lst []) (.s 5) (.rng [.slot 0]) [] [5]), .for_ (.t [.s 3, .s 4]) (.val (.bf .sorted [.slot 1])) [.expr (.bm .append (.idx (.slot 2) (.slot 3)) [.slot 4])], .ret (.slot 2)]
def b8 : List CS := -- shortest_way ['many', 'pairs', 'begin', 'end', 'later', 'ways', 'line', 'at', 'here', 'there']
  [.asg false (.s 4) (.call 7 [.slot 0, .slot 1]), .asg false (.s 5) (.dic1 (.slot 2) (.tup [.slot 2])), .asg false (.s 6) (.lst [.slot 2]), .asg false (.s 7) (.cst (.int 0)), .whl (.tand (.cmp .Lt (.slot 7) (.bf .len [.slot 6])) (.cmp .NotIn (.slot 3) (.slot 5))) [.asg false (.s 8) (.idx (.slot 6) (.slot 7)), .for_ (.s 9) (.val (.idx (.slot 4) (.slot 8))) [.ife (.cmp .NotIn (.slot 9) (.slot 5)) [.asgIx (.slot 5) (.slot 9) (.bin .Add (.idx (.slot 5) (.slot 8)) (.tup [.slot 9])), .expr (.bm .append (.slot 6) [.slot 9])] []], .aug 7 .Add (.cst (.int 1))], .ret (.bm .get (.slot 5) [.slot 3])]
def b9 : List CS := -- shortest_ring ['many', 'pairs', 'found', 'one', 'other', 'way', 'at']
  [.asg false (.s 2) (.lst []), .for_ (.t [.s 3, .s 4]) (.val (.slot 1)) [.asg false (.s 5) (.call 8 [.slot 0, .slot 1, .slot 4, .slot 3]), .ife (.cmp .IsNot (.slot 5) (.cst .non)) [.asg false (.s 6) (.bm .index (.slot 5) [.bf .min [.slot 5]]), .expr (.bm .append (.slot 2) [.tup [.bf .len [.slot 5], .bin .Add (.slc (.slot 5) (.slot 6) (.omit)) (.slc (.slot 5) (.omit) (.slot 6))]])] []], .ret (.ife (.cmp .Gt (.bf .len [.slot 2]) (.cst (.int 0))) (.idx (.bf .min [.slot 2]) (.cst (.int 1))) (.cst .non))]
def b10 : List CS := -- Home.__init__ ['self', 'many', 'arrows']
  [.ife (.tnot (.call 1 [.slot 1, .cst (.int 1), .cst (.int 10)])) [erS] [], .ife (.tnot (.call 6 [.slot 1, .slot 2])) [erS] [], .ife (.cmp .IsNot (.call 9 [.slot 1, .slot 2]) (.cst .non)) [erS] [], .asgAt (.slot 0) "many" (.slot 1), .asgAt (.slot 0) "arrows" (.bf .tuple [.bf .sorted [.slot 2]])]
def b11 : List CS := -- Home.__eq__ ['self', 'other']
  [.ret (.and_ (.isi (.slot 1) [.cls 0]) (.cmp .Eq (.tup [.att (.slot 0) "many", .att (.slot 0) "arrows"]) (.tup [.att (.slot 1) "many", .att (.slot 1) "arrows"])))]
def b12 : List CS := -- reached ['many', 'pairs', 'begin', 'later', 'found', 'line', 'there']
  [.asg false (.s 3) (.call 7 [.slot 0, .slot 1]), .asg false (.s 4) (.dic1 (.slot 2) (.cst (.bl true))), .asg false (.s 5) (.lst [.slot 2]), .whl (.cmp .Gt (.bf .len [.slot 5]) (.cst (.int 0))) [.for_ (.s 6) (.val (.idx (.slot 3) (.bm .pop (.slot 5) []))) [.ife (.cmp .NotIn (.slot 6) (.slot 4)) [.asgIx (.slot 4) (.slot 6) (.cst (.bl true)), .expr (.bm .append (.slot 5) [.slot 6])] []]], .ret (.slot 4)]
def b13 : List CS := -- first_order ['many', 'pairs', 'ahead', 'later', 'one', 'other', 'free', 'found', 'here', 'there', 'thing']
  [.asg false (.s 2) (.bin .Mult (.lst [.cst (.int 0)]) (.slot 0)), .asg false (.s 3) (.call 7 [.slot 0, .slot 1]), .for_ (.t [.s 4, .s 5]) (.val (.slot 1)) [.augIx (.slot 2) (.slot 5) .Add (.cst (.int 1))], .asg false (.s 6) (.lc (.slot 10) (.s 10) (.rng [.slot 0]) [.cmp .Eq (.idx (.slot 2) (.slot 10)) (.cst (.int 0))] [10]), .asg false (.s 7) (.lst []), .whl (.cmp .Gt (.bf .len [.slot 6]) (.cst (.int 0))) [.asg false (.s 8) (.bf .min [.slot 6]), .expr (.bm .remove (.slot 6) [.slot 8]), .expr (.bm .append (.slot 7) [.slot 8]), .for_ (.s 9) (.val (.idx (.slot 3) (.slot 8))) [.augIx (.slot 2) (.slot 9) .Sub (.cst (.int 1)), .ife (.cmp .Eq (.idx (.slot 2) (.slot 9)) (.cst (.int 0))) [.expr (.bm .append (.slot 6) [.slot 9])] []]], .ret (.ife (.cmp .Eq (.bf .len [.slot 7]) (.slot 0)) (.bf .tuple [.slot 7]) (.cst .non))]
def b14 : List CS := -- is_lot ['home', 'thing', 'pair']
  [.ife (.tor (.tnot (.isi (.slot 1) [.tuple])) (.tnot (.bf .all [.lc (.call 4 [.slot 2, .att (.slot 0) "many"]) (.s 2) (.val (.slot 1)) [] [2]]))) [.ret (.cst (.bl false))] [], .ret (.and_ (.bf .all [.lc (.cmp .In (.slot 2) (.att (.slot 0) "arrows")) (.s 2) (.val (.slot 1)) [] [2]]) (.call 5 [.slot 1]))]
def b15 : List CS := -- is_look ['home', 'thing']
  [.ret (.and_ (.call 3 [.slot 1, .cst (.int 2)]) (.and_ (.call 14 [.slot 0, .tup [.idx (.slot 1) (.cst (.int 0))]]) (.isi (.idx (.slot 1) (.cst (.int 1))) [.bool])))]
def b16 : List CS := -- is_seen ['home', 'thing', 'arrow', 'flag', 'item']
  [.ife (.tor (.tnot (.isi (.slot 1) [.tuple])) (.tnot (.bf .all [.lc (.call 15 [.slot 0, .slot 4]) (.s 4) (.val (.slot 1)) [] [4]]))) [.ret (.cst (.bl false))] [], .ret (.call 5 [.lc (.slot 2) (.t [.s 2, .s 3]) (.val (.slot 1)) [] [2, 3]])]
def b17 : List CS := -- check_seen ['home', 'thing']
  [.ife (.tnot (.call 16 [.slot 0, .slot 1])) [erS] []]
def b18 : List CS := -- seen_pairs ['seen', 'arrow', 'flag']
  [.ret (.lc (.ife (.slot 2) (.rev (.slot 1) (.un .USub (.cst (.int 1)))) (.slot 1)) (.t [.s 1, .s 2]) (.val (.slot 0)) [] [1, 2])]
def b19 : List CS := -- raw_sure ['home', 'seen', 'pairs', 'to', 'turned', 'thing', 'arrow']
  [.asg false (.s 2) (.call 18 [.slot 1]), .ife (.cmp .Is (.call 13 [.att (.slot 0) "many", .slot 2]) (.cst .non)) [.ret (.cst .non)] [], .asg false (.s 3) (.lc (.call 12 [.att (.slot 0) "many", .slot 2, .slot 5]) (.s 5) (.rng [.att (.slot 0) "many"]) [] [5]), .asg false (.s 4) (.bf .tuple [.lc (.slot 6) (.s 6) (.val (.att (.slot 0) "arrows")) [.cmp .In (.idx (.slot 6) (.cst (.int 0))) (.idx (.slot 3) (.idx (.slot 6) (.cst (.int 1))))] [6]]), .ret (.tup [.slot 4, .bf .tuple [.lc (.slot 6) (.s 6) (.val (.att (.slot 0) "arrows")) [.cmp .In (.idx (.slot 6) (.cst (.int 1))) (.idx (.slot 3) (.idx (.slot 6) (.cst (.int 0))))] [6]]])]
def b20 : List CS := -- sure ['home', 'seen']
  [.expr (.call 17 [.slot 0, .slot 1]), .ret (.call 19 [.slot 0, .slot 1])]
def b21 : List CS := -- _law_hand ['_law_script', '_law_cells', '_law_cell']
  [.asg false (.s 1) (.lc (.bf .abs [.bf .int [.slot 2]]) (.s 2) (.val (.slc (.slot 0) (.omit) (.cst (.int 63)))) [] [2]), .ret (.lst [.slot 1, .cst (.int 0), .cst (.int 0), .bin .Add (.cst (.int 1)) (.bf .len [.slot 1]), .cst (.int 0)])]
def b22 : List CS := -- _law_draw ['_law_hand_here', '_law_many', '_law_number', '_law_cell', '_law_digit']
  [.ife (.tand (.cmp .Eq (.idx (.slot 0) (.cst (.int 2))) (.cst (.int 0))) (.cmp .Lt (.idx (.slot 0) (.cst (.int 1))) (.bf .len [.idx (.slot 0) (.cst (.int 0))]))) [.asg false (.s 3) (.idx (.idx (.slot 0) (.cst (.int 0))) (.idx (.slot 0) (.cst (.int 1)))), .asgIx (.slot 0) (.cst (.int 1)) (.bin .Add (.idx (.slot 0) (.cst (.int 1))) (.cst (.int 1))), .asgIx (.slot 0) (.cst (.int 3)) (.bin .Mod (.bf .int [.bin .Add (.bin .Add (.bin .Mult (.idx (.slot 0) (.cst (.int 3))) (.cst (.int 69621))) (.slot 3)) (.cst (.int 11))]) (.cst (.int 2147483629))), .ife (.cmp .GtE (.slot 3) (.bin .Pow (.cst (.int 10)) (.cst (.int 18)))) [.asgIx (.slot 0) (.cst (.int 2)) (.slot 3)] []] [], .ife (.cmp .Gt (.idx (.slot 0) (.cst (.int 2))) (.cst (.int 0))) [.asg false (.s 4) (.bin .Mod (.bf .int [.idx (.slot 0) (.cst (.int 2))]) (.slot 1)), .asgIx (.slot 0) (.cst (.int 2)) (.bin .FloorDiv (.idx (.slot 0) (.cst (.int 2))) (.slot 1)), .ret (.slot 4)] [], .asgIx (.slot 0) (.cst (.int 4)) (.bin .Add (.idx (.slot 0) (.cst (.int 4))) (.cst (.int 1))), .asg false (.s 2) (.bin .Mod (.bf .int [.bin .Mult (.bf .int [.bin .Add (.idx (.slot 0) (.cst (.int 3))) (.bin .Mult (.cst (.int 7919)) (.idx (.slot 0) (.cst (.int 4))))]) (.cst (.int 48271))]) (.cst (.int 2147483647))), .asg false (.s 2) (.bin .Mod (.bf .int [.bin .Mult (.slot 2) (.bin .Add (.bin .FloorDiv (.slot 2) (.cst (.int 1009))) (.cst (.int 69621)))]) (.cst (.int 2147483647))), .asg false (.s 2) (.bin .Mod (.bf .int [.bin .Mult (.slot 2) (.bin .Add (.bin .FloorDiv (.slot 2) (.cst (.int 2003))) (.cst (.int 40692)))]) (.cst (.int 2147483399))), .ret (.bin .Mod (.bf .int [.bin .FloorDiv (.slot 2) (.cst (.int 16))]) (.slot 1))]
def b23 : List CS := -- _law_some ['_law_hand_here', '_law_things']
  [.ret (.idx (.slot 1) (.call 22 [.slot 0, .bf .len [.slot 1]]))]
def b24 : List CS := -- _law_shuffled ['_law_hand_here', '_law_things', '_law_pool', '_law_found']
  [.asg false (.s 2) (.bf .list [.slot 1]), .asg false (.s 3) (.lst []), .whl (.cmp .Gt (.bf .len [.slot 2]) (.cst (.int 0))) [.expr (.bm .append (.slot 3) [.bm .pop (.slot 2) [.call 22 [.slot 0, .bf .len [.slot 2]]]])], .ret (.slot 3)]
def b25 : List CS := -- _law_is ['_law_told', '_law_due', '_law_k', '_law_key']
  [.ife (.isi (.slot 1) [.tuple, .list]) [.ife (.tor (.cmp .NotEq (.isi (.slot 0) [.tuple]) (.isi (.slot 1) [.tuple])) (.cmp .NotEq (.isi (.slot 0) [.list]) (.isi (.slot 1) [.list]))) [.ret (.cst (.bl false))] [], erS] [], .ife (.isi (.slot 1) [.dict]) [erS] [], .ret (.and_ (.cmp .Eq (.isi (.slot 0) [.bool]) (.isi (.slot 1) [.bool])) (.cmp .Eq (.slot 0) (.slot 1)))]
def b26 : List CS := -- _law_is ['_law_told', '_law_due', '_law_k', '_law_key']
  [.ife (.isi (.slot 1) [.tuple, .list]) [.ife (.tor (.cmp .NotEq (.isi (.slot 0) [.tuple]) (.isi (.slot 1) [.tuple])) (.cmp .NotEq (.isi (.slot 0) [.list]) (.isi (.slot 1) [.list]))) [.ret (.cst (.bl false))] [], .ret (.and_ (.cmp .Eq (.bf .len [.slot 0]) (.bf .len [.slot 1])) (.bf .all [.lc (.call 25 [.idx (.slot 0) (.slot 2), .idx (.slot 1) (.slot 2)]) (.s 2) (.rng [.bf .len [.slot 1]]) [] [2]]))] [], .ife (.isi (.slot 1) [.dict]) [.ret (.and_ (.isi (.slot 0) [.dict]) (.and_ (.cmp .Eq (.slot 0) (.slot 1)) (.bf .all [.lc (.call 25 [.idx (.slot 0) (.slot 3), .idx (.slot 1) (.slot 3)]) (.s 3) (.val (.slot 1)) [] [3]])))] [], .ret (.and_ (.cmp .Eq (.isi (.slot 0) [.bool]) (.isi (.slot 1) [.bool])) (.cmp .Eq (.slot 0) (.slot 1)))]
def b27 : List CS := -- _law_is ['_law_told', '_law_due', '_law_k', '_law_key']
  [.ife (.isi (.slot 1) [.tuple, .list]) [.ife (.tor (.cmp .NotEq (.isi (.slot 0) [.tuple]) (.isi (.slot 1) [.tuple])) (.cmp .NotEq (.isi (.slot 0) [.list]) (.isi (.slot 1) [.list]))) [.ret (.cst (.bl false))] [], .ret (.and_ (.cmp .Eq (.bf .len [.slot 0]) (.bf .len [.slot 1])) (.bf .all [.lc (.call 26 [.idx (.slot 0) (.slot 2), .idx (.slot 1) (.slot 2)]) (.s 2) (.rng [.bf .len [.slot 1]]) [] [2]]))] [], .ife (.isi (.slot 1) [.dict]) [.ret (.and_ (.isi (.slot 0) [.dict]) (.and_ (.cmp .Eq (.slot 0) (.slot 1)) (.bf .all [.lc (.call 26 [.idx (.slot 0) (.slot 3), .idx (.slot 1) (.slot 3)]) (.s 3) (.val (.slot 1)) [] [3]])))] [], .ret (.and_ (.cmp .Eq (.isi (.slot 0) [.bool]) (.isi (.slot 1) [.bool])) (.cmp .Eq (.slot 0) (.slot 1)))]
def b28 : List CS := -- _law_is ['_law_told', '_law_due', '_law_k', '_law_key']
  [.ife (.isi (.slot 1) [.tuple, .list]) [.ife (.tor (.cmp .NotEq (.isi (.slot 0) [.tuple]) (.isi (.slot 1) [.tuple])) (.cmp .NotEq (.isi (.slot 0) [.list]) (.isi (.slot 1) [.list]))) [.ret (.cst (.bl false))] [], .ret (.and_ (.cmp .Eq (.bf .len [.slot 0]) (.bf .len [.slot 1])) (.bf .all [.lc (.call 27 [.idx (.slot 0) (.slot 2), .idx (.slot 1) (.slot 2)]) (.s 2) (.rng [.bf .len [.slot 1]]) [] [2]]))] [], .ife (.isi (.slot 1) [.dict]) [.ret (.and_ (.isi (.slot 0) [.dict]) (.and_ (.cmp .Eq (.slot 0) (.slot 1)) (.bf .all [.lc (.call 27 [.idx (.slot 0) (.slot 3), .idx (.slot 1) (.slot 3)]) (.s 3) (.val (.slot 1)) [] [3]])))] [], .ret (.and_ (.cmp .Eq (.isi (.slot 0) [.bool]) (.isi (.slot 1) [.bool])) (.cmp .Eq (.slot 0) (.slot 1)))]
def b29 : List CS := -- _law_flag ['_law_told', '_law_due']
  [.ret (.and_ (.isi (.slot 0) [.bool]) (.cmp .Eq (.slot 0) (.slot 1)))]
def b30 : List CS := -- _law_arrows ['_law_hand_here', '_law_many', '_law_rare', '_law_row', '_law_found', '_law_one', '_law_other']
  [.asg false (.s 3) (.call 24 [.slot 0, .bf .lrg [.slot 1]]), .asg false (.s 4) (.lst []), .for_ (.s 5) (.rng [.slot 1]) [.for_ (.s 6) (.rng [.bin .Add (.slot 5) (.cst (.int 1)), .slot 1]) [.ife (.cmp .Eq (.call 22 [.slot 0, .slot 2]) (.cst (.int 0))) [.expr (.bm .append (.slot 4) [.tup [.idx (.slot 3) (.slot 5), .idx (.slot 3) (.slot 6)]])] []]], .ret (.bf .tuple [.bf .sorted [.slot 4]])]
def b31 : List CS := -- _law_has_ring ['_law_many', '_law_pairs', '_law_left', '_law_some_here', '_law_turn', '_law_ahead', '_law_u', '_law_v', '_law_thing']
  [.par 2 3 (.bf .lrg [.slot 0]) (.bf .list [.slot 1]), .for_ (.s 4) (.rng [.slot 0]) [.asg false (.s 5) (.lc (.slot 6) (.t [.s 6, .s 7]) (.val (.slot 3)) [] [6, 7]), .asg false (.s 2) (.lc (.slot 8) (.s 8) (.val (.slot 2)) [.cmp .In (.slot 8) (.slot 5)] [8]), .asg false (.s 3) (.lc (.tup [.slot 6, .slot 7]) (.t [.s 6, .s 7]) (.val (.slot 3)) [.cmp .In (.slot 7) (.slot 2)] [6, 7]), .ife (.cmp .Eq (.bf .len [.slot 3]) (.cst (.int 0))) [.ret (.cst (.bl false))] []], .ret (.cst (.bl true))]
def b32 : List CS := -- _law_from_order ['_law_arrows_here', '_law_order', '_law_u', '_law_v']
  [.ret (.bf .tuple [.lc (.tup [.slot 2, .slot 3]) (.t [.s 2, .s 3]) (.val (.slot 0)) [.cmp .Lt (.bm .index (.slot 1) [.slot 3]) (.bm .index (.slot 1) [.slot 2])] [2, 3]])]
def b33 : List CS := -- _law_reached ['_law_pairs', '_law_begin', '_law_found', '_law_waiting', '_law_here', '_law_later', '_law_u', '_law_v']
  [.par 2 3 (.lst [.slot 1]) (.lst [.slot 1]), .whl (.cmp .Gt (.bf .len [.slot 3]) (.cst (.int 0))) [.asg false (.s 4) (.bm .pop (.slot 3) []), .asg false (.s 5) (.lc (.slot 7) (.t [.s 6, .s 7]) (.val (.slot 0)) [.tand (.cmp .Eq (.slot 6) (.slot 4)) (.cmp .NotIn (.slot 7) (.slot 2))] [6, 7]), .expr (.bm .extend (.slot 2) [.slot 5]), .expr (.bm .extend (.slot 3) [.slot 5])], .ret (.slot 2)]
def b34 : List CS := -- _law_seen ['_law_hand_here', '_law_arrows_here', '_law_lot', '_law_rare', '_law_arrow']
  [.ret (.bf .tuple [.lc (.tup [.slot 4, .cmp .In (.slot 4) (.slot 2)]) (.s 4) (.val (.slot 1)) [.cmp .Eq (.call 22 [.slot 0, .slot 3]) (.cst (.int 0))] [4]])]
def b35 : List CS := -- _law_seen_pairs ['_law_seen_here', '_law_arrow', '_law_flag_here']
  [.ret (.lc (.ife (.slot 2) (.tup [.idx (.slot 1) (.cst (.int 1)), .idx (.slot 1) (.cst (.int 0))]) (.slot 1)) (.t [.s 1, .s 2]) (.val (.slot 0)) [] [1, 2])]
def b36 : List CS := -- _law_sure_by_ways ['_law_many', '_law_arrows_here', '_law_seen_here', '_law_pairs', '_law_reach', '_law_thing', '_law_u', '_law_v']
  [.asg false (.s 3) (.call 35 [.slot 2]), .ife (.call 31 [.slot 0, .slot 3]) [.ret (.cst .non)] [], .asg false (.s 4) (.lc (.call 33 [.slot 3, .slot 5]) (.s 5) (.rng [.slot 0]) [] [5]), .ret (.tup [.bf .tuple [.lc (.tup [.slot 6, .slot 7]) (.t [.s 6, .s 7]) (.val (.slot 1)) [.cmp .In (.slot 6) (.idx (.slot 4) (.slot 7))] [6, 7]], .bf .tuple [.lc (.tup [.slot 6, .slot 7]) (.t [.s 6, .s 7]) (.val (.slot 1)) [.cmp .In (.slot 7) (.idx (.slot 4) (.slot 6))] [6, 7]]])]
def b37 : List CS := -- _law_with ['_law_seen_here', '_law_arrow', '_law_flag_here', '_law_pair']
  [.ret (.bf .tuple [.bf .sorted [.bin .Add (.lc (.slot 3) (.s 3) (.val (.slot 0)) [.cmp .NotEq (.idx (.slot 3) (.cst (.int 0))) (.slot 1)] [3]) (.lst [.tup [.slot 1, .slot 2]])]])]
def b38 : List CS := -- law ['_law_script', '_law_hand_here', '_law_turn', '_law_many', '_law_arrows_here', '_law_home', '_law_lot', '_law_again', '_law_seen_here', '_law_due', '_law_flags', '_law_arrow', '_law_later', '_law_flag_here', '_law_one']
  [.asg false (.s 1) (.call 21 [.slot 0]), .for_ (.s 2) (.rng [.cst (.int 3)]) [.asg false (.s 3) (.bin .Add (.cst (.int 6)) (.call 22 [.slot 1, .cst (.int 5)])), .asg false (.s 4) (.call 30 [.slot 1, .slot 3, .call 23 [.slot 1, .lst [.cst (.int 1), .cst (.int 2), .cst (.int 2), .cst (.int 3)]]]), .asg false (.s 5) (.mk 0 [.slot 3, .slot 4]), .asg false (.s 6) (.call 32 [.slot 4, .call 24 [.slot 1, .bf .lrg [.slot 3]]]), .for_ (.s 7) (.rng [.cst (.int 4)]) [.asg false (.s 8) (.call 34 [.slot 1, .slot 4, .slot 6, .call 23 [.slot 1, .lst [.cst (.int 2), .cst (.int 3), .cst (.int 4), .cst (.int 6)]]]), .ife (.cmp .Eq (.call 22 [.slot 1, .cst (.int 4)]) (.cst (.int 0))) [.asg false (.s 8) (.bf .tuple [.lc (.tup [.slot 11, .cmp .NotEq (.slot 13) (.cmp .Eq (.call 22 [.slot 1, .cst (.int 6)]) (.cst (.int 0)))]) (.t [.s 11, .s 13]) (.val (.slot 8)) [] [11, 13]])] [], .asg false (.s 9) (.call 36 [.slot 3, .slot 4, .slot 8]), .ife (.tor (.tnot (.call 28 [.call 20 [.slot 5, .slot 8], .slot 9])) (.tnot (.call 29 [.call 16 [.slot 5, .slot 8], .cst (.bl true)]))) [.ret (.cst (.bl false))] [], .ife (.tand (.cmp .IsNot (.slot 9) (.cst .non)) (.tnot (.bf .all [.lc (.cmp .In (.slot 11) (.idx (.slot 9) (.bf .int [.not_ (.slot 13)]))) (.t [.s 11, .s 13]) (.val (.slot 8)) [] [11, 13]]))) [.ret (.cst (.bl false))] [], .ife (.tand (.cmp .IsNot (.slot 9) (.cst .non)) (.cmp .Gt (.bf .len [.slot 4]) (.cst (.int 0)))) [.asg false (.s 10) (.bin .Add (.lc (.tup [.slot 11, .cst (.bl true)]) (.s 11) (.val (.idx (.slot 9) (.cst (.int 0)))) [] [11]) (.lc (.tup [.slot 11, .cst (.bl false)]) (.s 11) (.val (.idx (.slot 9) (.cst (.int 1)))) [] [11])), .ife (.cmp .NotEq (.call 20 [.slot 5, .bf .tuple [.bf .sorted [.slot 10]]]) (.slot 9)) [.ret (.cst (.bl false))] [], .asg false (.s 11) (.call 23 [.slot 1, .slot 4]), .asg false (.s 12) (.call 20 [.slot 5, .call 37 [.slot 8, .slot 11, .cmp .In (.slot 11) (.idx (.slot 9) (.cst (.int 0)))]]), .ife (.tor (.cmp .Is (.slot 12) (.cst .non)) (.tnot (.bf .all [.lc (.cmp .In (.slot 14) (.idx (.slot 12) (.cst (.int 0)))) (.s 14) (.val (.idx (.slot 9) (.cst (.int 0)))) [] [14]]))) [.ret (.cst (.bl false))] [], .ife (.tnot (.bf .all [.lc (.cmp .In (.slot 14) (.idx (.slot 12) (.cst (.int 1)))) (.s 14) (.val (.idx (.slot 9) (.cst (.int 1)))) [] [14]])) [.ret (.cst (.bl false))] []] []]], .ret (.cst (.bl true))]
def d0 : Df := ⟨true, "is_integer", "is_integer", topS 5, ["thing"], ["thing"], [], b0⟩
def d1 : Df := ⟨true, "is_between", "is_between", topS 6, ["thing", "least", "most"], ["thing", "least", "most"], [], b1⟩
def d2 : Df := ⟨true, "is_index", "is_index", topS 7, ["thing", "many"], ["thing", "many"], [], b2⟩
def d3 : Df := ⟨true, "is_tuple_of", "is_tuple_of", topS 8, ["thing", "many"], ["thing", "many"], [], b3⟩
def d4 : Df := ⟨true, "is_pair", "is_pair", topS 9, ["thing", "many", "item"], ["thing", "many"], [], b4⟩
def d5 : Df := ⟨true, "are_ascending", "are_ascending", topS 10, ["things", "one", "other"], ["things"], [], b5⟩
def d6 : Df := ⟨true, "are_arrows", "are_arrows", topS 14, ["many", "thing", "pair"], ["many", "thing"], [], b6⟩
def d7 : Df := ⟨true, "next_things", "next_things", topS 15, ["many", "pairs", "found", "one", "other", "_"], ["many", "pairs"], [], b7⟩
def d8 : Df := ⟨true, "shortest_way", "shortest_way", topS 16, ["many", "pairs", "begin", "end", "later", "ways", "line", "at", "here", "there"], ["many", "pairs", "begin", "end"], [], b8⟩
def d9 : Df := ⟨true, "shortest_ring", "shortest_ring", topS 17, ["many", "pairs", "found", "one", "other", "way", "at"], ["many", "pairs"], [], b9⟩
def d10 : Df := ⟨false, "__init__", "Home.__init__", inClass (topS 13) 0, ["self", "many", "arrows"], ["self", "many", "arrows"], [true], b10⟩
def d11 : Df := ⟨false, "__eq__", "Home.__eq__", inClass (topS 13) 1, ["self", "other"], ["self", "other"], [], b11⟩
def d12 : Df := ⟨true, "reached", "reached", topS 18, ["many", "pairs", "begin", "later", "found", "line", "there"], ["many", "pairs", "begin"], [], b12⟩
def d13 : Df := ⟨true, "first_order", "first_order", topS 19, ["many", "pairs", "ahead", "later", "one", "other", "free", "found", "here", "there", "thing"], ["many", "pairs"], [], b13⟩
def d14 : Df := ⟨true, "is_lot", "is_lot", topS 20, ["home", "thing", "pair"], ["home", "thing"], [], b14⟩
def d15 : Df := ⟨true, "is_look", "is_look", topS 22, ["home", "thing"], ["home", "thing"], [], b15⟩
def d16 : Df := ⟨true, "is_seen", "is_seen", topS 23, ["home", "thing", "arrow", "flag", "item"], ["home", "thing"], [], b16⟩
def d17 : Df := ⟨true, "check_seen", "check_seen", topS 24, ["home", "thing"], ["home", "thing"], [], b17⟩
def d18 : Df := ⟨true, "seen_pairs", "seen_pairs", topS 25, ["seen", "arrow", "flag"], ["seen"], [], b18⟩
def d19 : Df := ⟨true, "raw_sure", "raw_sure", topS 26, ["home", "seen", "pairs", "to", "turned", "thing", "arrow"], ["home", "seen"], [], b19⟩
def d20 : Df := ⟨true, "sure", "sure", topS 27, ["home", "seen"], ["home", "seen"], [], b20⟩
def d21 : Df := ⟨true, "_law_hand", "_law_hand", topS 29, ["_law_script", "_law_cells", "_law_cell"], ["_law_script"], [], b21⟩
def d22 : Df := ⟨true, "_law_draw", "_law_draw", topS 30, ["_law_hand_here", "_law_many", "_law_number", "_law_cell", "_law_digit"], ["_law_hand_here", "_law_many"], [true], b22⟩
def d23 : Df := ⟨true, "_law_some", "_law_some", topS 31, ["_law_hand_here", "_law_things"], ["_law_hand_here", "_law_things"], [true], b23⟩
def d24 : Df := ⟨true, "_law_shuffled", "_law_shuffled", topS 32, ["_law_hand_here", "_law_things", "_law_pool", "_law_found"], ["_law_hand_here", "_law_things"], [true], b24⟩
def d25 : Df := ⟨true, "_law_is", "_law_is", topS 33, ["_law_told", "_law_due", "_law_k", "_law_key"], ["_law_told", "_law_due"], [], b25⟩
def d26 : Df := ⟨true, "_law_is", "_law_is", topS 33, ["_law_told", "_law_due", "_law_k", "_law_key"], ["_law_told", "_law_due"], [], b26⟩
def d27 : Df := ⟨true, "_law_is", "_law_is", topS 33, ["_law_told", "_law_due", "_law_k", "_law_key"], ["_law_told", "_law_due"], [], b27⟩
def d28 : Df := ⟨true, "_law_is", "_law_is", topS 33, ["_law_told", "_law_due", "_law_k", "_law_key"], ["_law_told", "_law_due"], [], b28⟩
def d29 : Df := ⟨true, "_law_flag", "_law_flag", topS 34, ["_law_told", "_law_due"], ["_law_told", "_law_due"], [], b29⟩
def d30 : Df := ⟨true, "_law_arrows", "_law_arrows", topS 35, ["_law_hand_here", "_law_many", "_law_rare", "_law_row", "_law_found", "_law_one", "_law_other"], ["_law_hand_here", "_law_many", "_law_rare"], [true], b30⟩
def d31 : Df := ⟨true, "_law_has_ring", "_law_has_ring", topS 36, ["_law_many", "_law_pairs", "_law_left", "_law_some_here", "_law_turn", "_law_ahead", "_law_u", "_law_v", "_law_thing"], ["_law_many", "_law_pairs"], [], b31⟩
def d32 : Df := ⟨true, "_law_from_order", "_law_from_order", topS 37, ["_law_arrows_here", "_law_order", "_law_u", "_law_v"], ["_law_arrows_here", "_law_order"], [], b32⟩
def d33 : Df := ⟨true, "_law_reached", "_law_reached", topS 38, ["_law_pairs", "_law_begin", "_law_found", "_law_waiting", "_law_here", "_law_later", "_law_u", "_law_v"], ["_law_pairs", "_law_begin"], [], b33⟩
def d34 : Df := ⟨true, "_law_seen", "_law_seen", topS 39, ["_law_hand_here", "_law_arrows_here", "_law_lot", "_law_rare", "_law_arrow"], ["_law_hand_here", "_law_arrows_here", "_law_lot", "_law_rare"], [true], b34⟩
def d35 : Df := ⟨true, "_law_seen_pairs", "_law_seen_pairs", topS 40, ["_law_seen_here", "_law_arrow", "_law_flag_here"], ["_law_seen_here"], [], b35⟩
def d36 : Df := ⟨true, "_law_sure_by_ways", "_law_sure_by_ways", topS 41, ["_law_many", "_law_arrows_here", "_law_seen_here", "_law_pairs", "_law_reach", "_law_thing", "_law_u", "_law_v"], ["_law_many", "_law_arrows_here", "_law_seen_here"], [], b36⟩
def d37 : Df := ⟨true, "_law_with", "_law_with", topS 42, ["_law_seen_here", "_law_arrow", "_law_flag_here", "_law_pair"], ["_law_seen_here", "_law_arrow", "_law_flag_here"], [], b37⟩
def d38 : Df := ⟨true, "law", "law", topS 43, ["_law_script", "_law_hand_here", "_law_turn", "_law_many", "_law_arrows_here", "_law_home", "_law_lot", "_law_again", "_law_seen_here", "_law_due", "_law_flags", "_law_arrow", "_law_later", "_law_flag_here", "_law_one"], ["_law_script"], [], b38⟩
def L : LawT where
  ds := [d0, d1, d2, d3, d4, d5, d6, d7, d8, d9, d10, d11, d12, d13, d14, d15, d16, d17, d18, d19, d20, d21, d22, d23, d24, d25, d26, d27, d28, d29, d30, d31, d32, d33, d34, d35, d36, d37, d38]
  init := fun c => if c = 0 then some 10 else none
  meth := fun c m => if c = 0 ∧ m = "__eq__" then some 11 else none
  cl := [0]
  ki := [("Home", 0)]
  kc := [("MOST_THINGS", (.int 10))]
  eq := []
  fl := ["arrows", "many"]
theorem s0 : Sta L 0 d0 := ⟨⟨rfl, rfl, rfl, by decide +kernel, rfl, by decide +kernel, by decide +kernel⟩, rfl, by decide, by decide, fun _ _ _ _ _ _ us hl => match us, hl with | [_], _ => rfl⟩
theorem s1 : Sta L 1 d1 := ⟨⟨rfl, rfl, rfl, by decide +kernel, rfl, by decide +kernel, by decide +kernel⟩, rfl, by decide, by decide, fun _ _ _ _ _ _ us hl => match us, hl with | [_, _, _], _ => rfl⟩
theorem s2 : Sta L 2 d2 := ⟨⟨rfl, rfl, rfl, by decide +kernel, rfl, by decide +kernel, by decide +kernel⟩, rfl, by decide, by decide, fun _ _ _ _ _ _ us hl => match us, hl with | [_, _], _ => rfl⟩
theorem s3 : Sta L 3 d3 := ⟨⟨rfl, rfl, rfl, by decide +kernel, rfl, by decide +kernel, by decide +kernel⟩, rfl, by decide, by decide, fun _ _ _ _ _ _ us hl => match us, hl with | [_, _], _ => rfl⟩
theorem s4 : Sta L 4 d4 := ⟨⟨rfl, rfl, rfl, by decide +kernel, rfl, by decide +kernel, by decide +kernel⟩, rfl, by decide, by decide, fun _ _ _ _ _ _ us hl => match us, hl with | [_, _], _ => rfl⟩
theorem s5 : Sta L 5 d5 := ⟨⟨rfl, rfl, rfl, by decide +kernel, rfl, by decide +kernel, by decide +kernel⟩, rfl, by decide, by decide, fun _ _ _ _ _ _ us hl => match us, hl with | [_], _ => rfl⟩
theorem s6 : Sta L 6 d6 := ⟨⟨rfl, rfl, rfl, by decide +kernel, rfl, by decide +kernel, by decide +kernel⟩, rfl, by decide, by decide, fun _ _ _ _ _ _ us hl => match us, hl with | [_, _], _ => rfl⟩
theorem s7 : Sta L 7 d7 := ⟨⟨rfl, rfl, rfl, by decide +kernel, rfl, by decide +kernel, by decide +kernel⟩, rfl, by decide, by decide, fun _ _ _ _ _ _ us hl => match us, hl with | [_, _], _ => rfl⟩
theorem s8 : Sta L 8 d8 := ⟨⟨rfl, rfl, rfl, by decide +kernel, rfl, by decide +kernel, by decide +kernel⟩, rfl, by decide, by decide, fun _ _ _ _ _ _ us hl => match us, hl with | [_, _, _, _], _ => rfl⟩
theorem s9 : Sta L 9 d9 := ⟨⟨rfl, rfl, rfl, by decide +kernel, rfl, by decide +kernel, by decide +kernel⟩, rfl, by decide, by decide, fun _ _ _ _ _ _ us hl => match us, hl with | [_, _], _ => rfl⟩
theorem s10 : Sta L 10 d10 := ⟨⟨rfl, rfl, rfl, by decide +kernel, rfl, by decide +kernel, by decide +kernel⟩, rfl, by decide, by decide, fun _ _ _ _ _ _ us hl => match us, hl with | [_, _, _], _ => rfl⟩
theorem s11 : Sta L 11 d11 := ⟨⟨rfl, rfl, rfl, by decide +kernel, rfl, by decide +kernel, by decide +kernel⟩, rfl, by decide, by decide, fun _ _ _ _ _ _ us hl => match us, hl with | [_, _], _ => rfl⟩
theorem s12 : Sta L 12 d12 := ⟨⟨rfl, rfl, rfl, by decide +kernel, rfl, by decide +kernel, by decide +kernel⟩, rfl, by decide, by decide, fun _ _ _ _ _ _ us hl => match us, hl with | [_, _, _], _ => rfl⟩
theorem s13 : Sta L 13 d13 := ⟨⟨rfl, rfl, rfl, by decide +kernel, rfl, by decide +kernel, by decide +kernel⟩, rfl, by decide, by decide, fun _ _ _ _ _ _ us hl => match us, hl with | [_, _], _ => rfl⟩
theorem s14 : Sta L 14 d14 := ⟨⟨rfl, rfl, rfl, by decide +kernel, rfl, by decide +kernel, by decide +kernel⟩, rfl, by decide, by decide, fun _ _ _ _ _ _ us hl => match us, hl with | [_, _], _ => rfl⟩
theorem s15 : Sta L 15 d15 := ⟨⟨rfl, rfl, rfl, by decide +kernel, rfl, by decide +kernel, by decide +kernel⟩, rfl, by decide, by decide, fun _ _ _ _ _ _ us hl => match us, hl with | [_, _], _ => rfl⟩
theorem s16 : Sta L 16 d16 := ⟨⟨rfl, rfl, rfl, by decide +kernel, rfl, by decide +kernel, by decide +kernel⟩, rfl, by decide, by decide, fun _ _ _ _ _ _ us hl => match us, hl with | [_, _], _ => rfl⟩
theorem s17 : Sta L 17 d17 := ⟨⟨rfl, rfl, rfl, by decide +kernel, rfl, by decide +kernel, by decide +kernel⟩, rfl, by decide, by decide, fun _ _ _ _ _ _ us hl => match us, hl with | [_, _], _ => rfl⟩
theorem s18 : Sta L 18 d18 := ⟨⟨rfl, rfl, rfl, by decide +kernel, rfl, by decide +kernel, by decide +kernel⟩, rfl, by decide, by decide, fun _ _ _ _ _ _ us hl => match us, hl with | [_], _ => rfl⟩
theorem s19 : Sta L 19 d19 := ⟨⟨rfl, rfl, rfl, by decide +kernel, rfl, by decide +kernel, by decide +kernel⟩, rfl, by decide, by decide, fun _ _ _ _ _ _ us hl => match us, hl with | [_, _], _ => rfl⟩
theorem s20 : Sta L 20 d20 := ⟨⟨rfl, rfl, rfl, by decide +kernel, rfl, by decide +kernel, by decide +kernel⟩, rfl, by decide, by decide, fun _ _ _ _ _ _ us hl => match us, hl with | [_, _], _ => rfl⟩
theorem s21 : Sta L 21 d21 := ⟨⟨rfl, rfl, rfl, by decide +kernel, rfl, by decide +kernel, by decide +kernel⟩, rfl, by decide, by decide, fun _ _ _ _ _ _ us hl => match us, hl with | [_], _ => rfl⟩
theorem s22 : Sta L 22 d22 := ⟨⟨rfl, rfl, rfl, by decide +kernel, rfl, by decide +kernel, by decide +kernel⟩, rfl, by decide, by decide, fun _ _ _ _ _ _ us hl => match us, hl with | [_, _], _ => rfl⟩
theorem s23 : Sta L 23 d23 := ⟨⟨rfl, rfl, rfl, by decide +kernel, rfl, by decide +kernel, by decide +kernel⟩, rfl, by decide, by decide, fun _ _ _ _ _ _ us hl => match us, hl with | [_, _], _ => rfl⟩
theorem s24 : Sta L 24 d24 := ⟨⟨rfl, rfl, rfl, by decide +kernel, rfl, by decide +kernel, by decide +kernel⟩, rfl, by decide, by decide, fun _ _ _ _ _ _ us hl => match us, hl with | [_, _], _ => rfl⟩
theorem s25 : Sta L 25 d25 := ⟨⟨rfl, rfl, rfl, by decide +kernel, rfl, by decide +kernel, by decide +kernel⟩, rfl, by decide, by decide, fun _ _ _ _ _ _ us hl => match us, hl with | [_, _], _ => rfl⟩
theorem s26 : Sta L 26 d26 := ⟨⟨rfl, rfl, rfl, by decide +kernel, rfl, by decide +kernel, by decide +kernel⟩, rfl, by decide, by decide, fun _ _ _ _ _ _ us hl => match us, hl with | [_, _], _ => rfl⟩
theorem s27 : Sta L 27 d27 := ⟨⟨rfl, rfl, rfl, by decide +kernel, rfl, by decide +kernel, by decide +kernel⟩, rfl, by decide, by decide, fun _ _ _ _ _ _ us hl => match us, hl with | [_, _], _ => rfl⟩
theorem s28 : Sta L 28 d28 := ⟨⟨rfl, rfl, rfl, by decide +kernel, rfl, by decide +kernel, by decide +kernel⟩, rfl, by decide, by decide, fun _ _ _ _ _ _ us hl => match us, hl with | [_, _], _ => rfl⟩
theorem s29 : Sta L 29 d29 := ⟨⟨rfl, rfl, rfl, by decide +kernel, rfl, by decide +kernel, by decide +kernel⟩, rfl, by decide, by decide, fun _ _ _ _ _ _ us hl => match us, hl with | [_, _], _ => rfl⟩
theorem s30 : Sta L 30 d30 := ⟨⟨rfl, rfl, rfl, by decide +kernel, rfl, by decide +kernel, by decide +kernel⟩, rfl, by decide, by decide, fun _ _ _ _ _ _ us hl => match us, hl with | [_, _, _], _ => rfl⟩
theorem s31 : Sta L 31 d31 := ⟨⟨rfl, rfl, rfl, by decide +kernel, rfl, by decide +kernel, by decide +kernel⟩, rfl, by decide, by decide, fun _ _ _ _ _ _ us hl => match us, hl with | [_, _], _ => rfl⟩
theorem s32 : Sta L 32 d32 := ⟨⟨rfl, rfl, rfl, by decide +kernel, rfl, by decide +kernel, by decide +kernel⟩, rfl, by decide, by decide, fun _ _ _ _ _ _ us hl => match us, hl with | [_, _], _ => rfl⟩
theorem s33 : Sta L 33 d33 := ⟨⟨rfl, rfl, rfl, by decide +kernel, rfl, by decide +kernel, by decide +kernel⟩, rfl, by decide, by decide, fun _ _ _ _ _ _ us hl => match us, hl with | [_, _], _ => rfl⟩
theorem s34 : Sta L 34 d34 := ⟨⟨rfl, rfl, rfl, by decide +kernel, rfl, by decide +kernel, by decide +kernel⟩, rfl, by decide, by decide, fun _ _ _ _ _ _ us hl => match us, hl with | [_, _, _, _], _ => rfl⟩
theorem s35 : Sta L 35 d35 := ⟨⟨rfl, rfl, rfl, by decide +kernel, rfl, by decide +kernel, by decide +kernel⟩, rfl, by decide, by decide, fun _ _ _ _ _ _ us hl => match us, hl with | [_], _ => rfl⟩
theorem s36 : Sta L 36 d36 := ⟨⟨rfl, rfl, rfl, by decide +kernel, rfl, by decide +kernel, by decide +kernel⟩, rfl, by decide, by decide, fun _ _ _ _ _ _ us hl => match us, hl with | [_, _, _], _ => rfl⟩
theorem s37 : Sta L 37 d37 := ⟨⟨rfl, rfl, rfl, by decide +kernel, rfl, by decide +kernel, by decide +kernel⟩, rfl, by decide, by decide, fun _ _ _ _ _ _ us hl => match us, hl with | [_, _, _], _ => rfl⟩
theorem s38 : Sta L 38 d38 := ⟨⟨rfl, rfl, rfl, by decide +kernel, rfl, by decide +kernel, by decide +kernel⟩, rfl, by decide, by decide, fun _ _ _ _ _ _ us hl => match us, hl with | [_], _ => rfl⟩
theorem stas : Stas L 0 L.ds := .cons s0 (.cons s1 (.cons s2 (.cons s3 (.cons s4 (.cons s5 (.cons s6 (.cons s7 (.cons s8 (.cons s9 (.cons s10 (.cons s11 (.cons s12 (.cons s13 (.cons s14 (.cons s15 (.cons s16 (.cons s17 (.cons s18 (.cons s19 (.cons s20 (.cons s21 (.cons s22 (.cons s23 (.cons s24 (.cons s25 (.cons s26 (.cons s27 (.cons s28 (.cons s29 (.cons s30 (.cons s31 (.cons s32 (.cons s33 (.cons s34 (.cons s35 (.cons s36 (.cons s37 (.cons s38 (.nil)))))))))))))))))))))))))))))))))))))))
end TV.K52
/-! the law about sure ties -/
namespace TV.K52
open PySem L2 TV
def J1 : CS := .asg false (.s 10) (.bin .Add (.lc (.tup [.slot 11, .cst (.bl true)]) (.s 11) (.val (.idx (.slot 9) (.cst (.int 0)))) [] [11]) (.lc (.tup [.slot 11, .cst (.bl false)]) (.s 11) (.val (.idx (.slot 9) (.cst (.int 1)))) [] [11]))
def J2 : CS := .ife (.cmp .NotEq (.call 20 [.slot 5, .bf .tuple [.bf .sorted [.slot 10]]]) (.slot 9)) [.ret (.cst (.bl false))] []
def J3 : CS := .asg false (.s 11) (.call 23 [.slot 1, .slot 4])
def J4 : CS := .asg false (.s 12) (.call 20 [.slot 5, .call 37 [.slot 8, .slot 11, .cmp .In (.slot 11) (.idx (.slot 9) (.cst (.int 0)))]])
def J5 : CS := .ife (.tor (.cmp .Is (.slot 12) (.cst .non)) (.tnot (.bf .all [.lc (.cmp .In (.slot 14) (.idx (.slot 12) (.cst (.int 0)))) (.s 14) (.val (.idx (.slot 9) (.cst (.int 0)))) [] [14]]))) [.ret (.cst (.bl false))] []
def J6 : CS := .ife (.tnot (.bf .all [.lc (.cmp .In (.slot 14) (.idx (.slot 12) (.cst (.int 1)))) (.s 14) (.val (.idx (.slot 9) (.cst (.int 1)))) [] [14]])) [.ret (.cst (.bl false))] []
def I1 : CS := .asg false (.s 8) (.call 34 [.slot 1, .slot 4, .slot 6, .call 23 [.slot 1, .lst [.cst (.int 2), .cst (.int 3), .cst (.int 4), .cst (.int 6)]]])
def I2 : CS := .ife (.cmp .Eq (.call 22 [.slot 1, .cst (.int 4)]) (.cst (.int 0))) [.asg false (.s 8) (.bf .tuple [.lc (.tup [.slot 11, .cmp .NotEq (.slot 13) (.cmp .Eq (.call 22 [.slot 1, .cst (.int 6)]) (.cst (.int 0)))]) (.t [.s 11, .s 13]) (.val (.slot 8)) [] [11, 13]])] []
def I3 : CS := .asg false (.s 9) (.call 36 [.slot 3, .slot 4, .slot 8])
def I4 : CS := .ife (.tor (.tnot (.call 28 [.call 20 [.slot 5, .slot 8], .slot 9])) (.tnot (.call 29 [.call 16 [.slot 5, .slot 8], .cst (.bl true)]))) [.ret (.cst (.bl false))] []
def I5 : CS := .ife (.tand (.cmp .IsNot (.slot 9) (.cst .non)) (.tnot (.bf .all [.lc (.cmp .In (.slot 11) (.idx (.slot 9) (.bf .int [.not_ (.slot 13)]))) (.t [.s 11, .s 13]) (.val (.slot 8)) [] [11, 13]]))) [.ret (.cst (.bl false))] []
def I6 : CS := .ife (.tand (.cmp .IsNot (.slot 9) (.cst .non)) (.cmp .Gt (.bf .len [.slot 4]) (.cst (.int 0)))) [J1, J2, J3, J4, J5, J6] []
def inner : List CS := [I1, I2, I3, I4, I5, I6]
def O1 : CS := .asg false (.s 3) (.bin .Add (.cst (.int 6)) (.call 22 [.slot 1, .cst (.int 5)]))
def O2 : CS := .asg false (.s 4) (.call 30 [.slot 1, .slot 3, .call 23 [.slot 1, .lst [.cst (.int 1), .cst (.int 2), .cst (.int 2), .cst (.int 3)]]])
def O3 : CS := .asg false (.s 5) (.mk 0 [.slot 3, .slot 4])
def O4 : CS := .asg false (.s 6) (.call 32 [.slot 4, .call 24 [.slot 1, .bf .lrg [.slot 3]]])
def outer : List CS := [O1, O2, O3, O4, .for_ (.s 7) (.rng [.cst (.int 4)]) inner]
theorem fn {i j : Nat} {io : List Bool} {S : FS → Prop} (h : j < i) (hs : S (L.F j)) (hio : L.io j = [] := by rfl) : Fn (L.C i io) j S := ⟨hio, by show S (if j < i then L.F j else errF); rw [if_pos h]; exact hs⟩
theorem fs_at {i j : Nat} {io : List Bool} (h : j < i) : (L.C i io).fs j = L.F j := by show (if j < i then L.F j else errF) = _; rw [if_pos h]
theorem f0 : SInt (L.F 0) := by rw [F_eq L (d := d0) rfl]; exact r_is_integer
theorem f1 : SBetween (L.F 1) := by rw [F_eq L (d := d1) rfl]; exact r_is_between (fn (by decide) f0)
theorem f2 : SIndex (L.F 2) := by rw [F_eq L (d := d2) rfl]; exact r_is_index (fn (by decide) f1)
theorem f3 : STupleOf (L.F 3) := by rw [F_eq L (d := d3) rfl]; exact r_is_tuple_of
theorem f4 : SPair (L.F 4) := by rw [F_eq L (d := d4) rfl]; exact r_is_pair rfl (fn (by decide) f2) (fn (by decide) f3)
theorem f5 : SAsc (L.F 5) := by rw [F_eq L (d := d5) rfl]; exact r_are_ascending rfl
theorem f5L : SAscL (L.F 5) := by rw [F_eq L (d := d5) rfl]; exact r_are_ascendingL rfl
theorem f6 : SArr (L.F 6) := by rw [F_eq L (d := d6) rfl]; exact r_are_arrows rfl (fn (by decide) f4)
theorem f7 : SNext (L.F 7) := by rw [F_eq L (d := d7) rfl]; exact r_next_things rfl
theorem f8 : SWay (L.F 8) := by rw [F_eq L (d := d8) rfl]; exact r_shortest_way rfl (fn (by decide) f7)
theorem f9 : SRing0 (L.F 9) := by rw [F_eq L (d := d9) rfl]; exact r_shortest_ring0 rfl (fn (by decide) f8)
theorem f10 : SInit (L.F 10) := by rw [F_eq L (d := d10) rfl]; exact r_home_init rfl rfl (fn (by decide) f1) (fn (by decide) f6) (fn (by decide) f9)
theorem f12 : SReach (L.F 12) := by rw [F_eq L (d := d12) rfl]; exact r_reached rfl (fn (by decide) f7)
theorem f13 : SOrd (L.F 13) := by rw [F_eq L (d := d13) rfl]; exact r_first_order rfl (fn (by decide) f7)
theorem f14 : SLot (L.F 14) := by rw [F_eq L (d := d14) rfl]; exact r_is_lot rfl rfl (fn (by decide) f4) (fn (by decide) f5)
theorem f15 : SLook (L.F 15) := by rw [F_eq L (d := d15) rfl]; exact r_is_look (fn (by decide) f3) (fn (by decide) f14)
theorem f16 : SIsSeen (L.F 16) := by rw [F_eq L (d := d16) rfl]; exact r_is_seen rfl (fn (by decide) f5L) (fn (by decide) f15)
theorem f17 : SChkS (L.F 17) := by rw [F_eq L (d := d17) rfl]; exact r_check_seen (fn (by decide) f16)
theorem f18 : SSeenP (L.F 18) := by rw [F_eq L (d := d18) rfl]; exact r_seen_pairs rfl
theorem f19 : SSure (L.F 19) := by rw [F_eq L (d := d19) rfl]; exact r_raw_sure rfl rfl (fn (by decide) f12) (fn (by decide) f13) (fn (by decide) f18)
theorem f20 : SSure (L.F 20) := by rw [F_eq L (d := d20) rfl]; exact r_sure (fn (by decide) f17) (fn (by decide) f19)
theorem f21 : SHand (L.F 21) := by rw [F_eq L (d := d21) rfl]; exact r_law_hand rfl
theorem f22 : SDraw (L.F 22) := by rw [F_eq L (d := d22) rfl]; exact r_law_draw rfl
theorem f23 : SSome (L.F 23) := by rw [F_eq L (d := d23) rfl]; exact r_law_some rfl rfl (by rw [fs_at (by decide)]; exact f22)
theorem f24 : SShuf (L.F 24) := by rw [F_eq L (d := d24) rfl]; exact r_law_shuffled rfl rfl (by rw [fs_at (by decide)]; exact f22)
theorem f25 : SIs0 (L.F 25) := by rw [F_eq L (d := d25) rfl]; exact r_is0
def PInt (t : T) : Prop := ∃ n : Nat, t = .int n
def PPair (t : T) : Prop := ∃ p : Pr, t = Enc.enc p
def PLst (t : T) : Prop := ∃ l : List Pr, t = .tup (l.map Enc.enc) ∧ l.length ≤ 1000
theorem f26 : SIsT (L.F 26) PInt := by
  rw [F_eq L (d := d26) rfl]
  refine r_isT (f25 := 25) rfl rfl ?_
  rintro t ⟨n, rfl⟩
  refine ⟨by simp, ?_⟩
  rw [fs_at (by decide)]; exact f25.1 n
theorem f27 : SIsT (L.F 27) PPair := by
  rw [F_eq L (d := d27) rfl]
  refine r_isT (f25 := 26) rfl rfl ?_
  rintro t ⟨p, rfl⟩
  refine ⟨by simp, ?_⟩
  rw [fs_at (by decide)]
  exact f26 [.int p.1, .int p.2] (by simp) (by simp) (by
    intro t ht
    simp only [List.mem_cons, List.not_mem_nil, or_false] at ht
    rcases ht with rfl | rfl
    · exact ⟨p.1, rfl⟩
    · exact ⟨p.2, rfl⟩)
theorem f28 : SIsT (L.F 28) PLst := by
  rw [F_eq L (d := d28) rfl]
  refine r_isT (f25 := 27) rfl rfl ?_
  rintro t ⟨l, rfl, hl⟩
  refine ⟨by simp, ?_⟩
  rw [fs_at (by decide)]
  exact f27 (l.map Enc.enc) (by simp) (by simpa using hl) (by
    intro t ht
    obtain ⟨p, _, rfl⟩ := List.mem_map.mp ht
    exact ⟨p, rfl⟩)
theorem f28n : L.F 28 [.non, .non] = .ok (.bl true, []) := by rw [F_eq L (d := d28) rfl]; exact r_isN
theorem f29 : SFlag (L.F 29) := by rw [F_eq L (d := d29) rfl]; exact r_law_flag
theorem f30 : SArrows (L.F 30) := by rw [F_eq L (d := d30) rfl]; exact r_law_arrows2 rfl rfl (by rw [fs_at (by decide)]; exact f22) rfl (by rw [fs_at (by decide)]; exact f24)
theorem f31 : SRingT (L.F 31) := by rw [F_eq L (d := d31) rfl]; exact r_law_ringT rfl
theorem f32 : SFrom (L.F 32) := by rw [F_eq L (d := d32) rfl]; exact r_law_from rfl
theorem f33 : SLReach (L.F 33) := by rw [F_eq L (d := d33) rfl]; exact r_law_reached rfl
theorem f34 : SDSeen (L.F 34) := by rw [F_eq L (d := d34) rfl]; exact r_law_seen rfl rfl (by rw [fs_at (by decide)]; exact f22)
theorem f35 : SSeenP (L.F 35) := by rw [F_eq L (d := d35) rfl]; exact r_law_seen_pairs rfl
theorem f36 : SSureL (L.F 36) := by rw [F_eq L (d := d36) rfl]; exact r_law_sure rfl (fn (by decide) f31) (fn (by decide) f33) (fn (by decide) f35)
theorem f37 : SWith (L.F 37) := by rw [F_eq L (d := d37) rfl]; exact r_law_with rfl
/-! ### the law's turn -/
abbrev CL : Ctx := L.C 38 []
theorem cl0 : CL.cl.contains 0 = true := rfl
theorem clp : CL.pin = [] := rfl
theorem cfs {j : Nat} (h : j < 38) : CL.fs j = L.F j := fs_at h
theorem i16 : CL.io 16 = [] := rfl
theorem i20 : CL.io 20 = [] := rfl
theorem i22 : CL.io 22 = [true] := rfl
theorem i23 : CL.io 23 = [true] := rfl
theorem i24 : CL.io 24 = [true] := rfl
theorem i28 : CL.io 28 = [] := rfl
theorem i29 : CL.io 29 = [] := rfl
theorem i30 : CL.io 30 = [true] := rfl
theorem i32 : CL.io 32 = [] := rfl
theorem i34 : CL.io 34 = [true] := rfl
theorem i36 : CL.io 36 = [] := rfl
theorem i37 : CL.io 37 = [] := rfl
/-- the law's slots -/
def V (sc h s2 s3 s4 s5 s6 s7 s8 s9 s10 s11 s12 : Option T) : TV.Env := [sc, h, s2, s3, s4, s5, s6, s7, s8, s9, s10, s11, s12, none, none]
theorem call_some {f : FS} (hf : SSome f) {η : TV.Env} {h t t' : T} {ts : List T} (k : HandOk h) (ht : t.frz = t') (hs : seqOf t' = some ts) (h1 : t'.fl = false) (h2 : t'.sh = true) (hz : fzs ts = true) (hl1 : 1 ≤ ts.length) (hl2 : ts.length ≤ 1000) (i : Nat) (hη : η[i]? = some (some h)) :
    ∃ (x : T) (h' : T), callF f [true] [.pl i [], .v t] η = .ok (.v x, (η.set i none).set i (some h')) ∧ x ∈ ts ∧ HandOk h' := by
  obtain ⟨x, h', e, hx, k'⟩ := hf h ts t' k hs h1 h2 hz hl1 hl2
  refine ⟨x, h', ?_, hx, k'⟩
  unfold callF
  simp [hη, k.fl, ht, e]
theorem call_dseen {f : FS} (hf : SDSeen f) {η : TV.Env} {h : T} {m r : Nat} {as l : List Pr} (k : HandOk h) (ha : Arr m as) (hr1 : 1 ≤ r) (hr2 : r ≤ 1000) (i : Nat) (hη : η[i]? = some (some h)) :
    ∃ (s : List Lk) (h' : T), callF f [true] [.pl i [], .v (.tup (as.map Enc.enc)), .v (.tup (l.map Enc.enc)), .v (.int r)] η = .ok (.v (.tup (s.map Enc.enc)), (η.set i none).set i (some h')) ∧ Seen as s ∧ HandOk h' := by
  obtain ⟨s, h', e, hs, k'⟩ := hf h m as l r k ha hr1 hr2
  refine ⟨s, h', ?_, hs, k'⟩
  unfold callF
  simp [hη, k.fl, e]
theorem call_arrows {f : FS} (hf : SArrows f) {η : TV.Env} {h : T} {m r : Nat} (k : HandOk h) (hm1 : 1 ≤ m) (hm : m ≤ 30) (hr1 : 1 ≤ r) (hr : r ≤ 1000) (i : Nat) (hη : η[i]? = some (some h)) :
    ∃ (as : List Pr) (h' : T), callF f [true] [.pl i [], .v (.int m), .v (.int r)] η = .ok (.v (.tup (as.map Enc.enc)), (η.set i none).set i (some h')) ∧ Arr m as ∧ Acyc as ∧ HandOk h' := by
  obtain ⟨as, h', e, ha, hac, k'⟩ := hf h m r k hm1 hm hr1 hr
  refine ⟨as, h', ?_, ha, hac, k'⟩
  unfold callF
  simp [hη, k.fl, e]
section
variable {sc s2 s5 s6 s7 s8 s9 s10 s11 s12 : Option T} {h : T} {m : Nat} {as lot : List Pr}
theorem t_I1 (k : HandOk h) (ha : Arr m as) : ∃ (s : List Lk) (h' : T), evS CL I1 (V sc (some h) s2 (some (.int m)) (some (.tup (as.map Enc.enc))) s5 (some (.tup (lot.map Enc.enc))) s7 s8 s9 s10 s11 s12) = .nx (V sc (some h') s2 (some (.int m)) (some (.tup (as.map Enc.enc))) s5 (some (.tup (lot.map Enc.enc))) s7 (some (.tup (s.map Enc.enc))) s9 s10 s11 s12) ∧ Seen as s ∧ HandOk h' := by
  obtain ⟨x, h1, e1, hx, k1⟩ := call_some (f := CL.fs 23) (by rw [cfs (by decide)]; exact f23) (t := .lst true [.int 2, .int 3, .int 4, .int 6]) (t' := .lst false [.int 2, .int 3, .int 4, .int 6]) (ts := [.int 2, .int 3, .int 4, .int 6]) (η := V sc (some h) s2 (some (.int m)) (some (.tup (as.map Enc.enc))) s5 (some (.tup (lot.map Enc.enc))) s7 s8 s9 s10 s11 s12) k (by simp) rfl rfl (by simp) (by simp) (by simp) (by simp) 1 rfl
  obtain ⟨r, rfl, hr1, hr2⟩ : ∃ r : Nat, x = .int r ∧ 1 ≤ r ∧ r ≤ 1000 := by
    simp only [List.mem_cons, List.not_mem_nil, or_false] at hx
    rcases hx with rfl | rfl | rfl | rfl
    · exact ⟨2, rfl, by decide, by decide⟩
    · exact ⟨3, rfl, by decide, by decide⟩
    · exact ⟨4, rfl, by decide, by decide⟩
    · exact ⟨6, rfl, by decide, by decide⟩
  obtain ⟨s, h2, e2, hs, k2⟩ := call_dseen (f := CL.fs 34) (by rw [cfs (by decide)]; exact f34) (r := r) (l := lot) (η := V sc (some h1) s2 (some (.int m)) (some (.tup (as.map Enc.enc))) s5 (some (.tup (lot.map Enc.enc))) s7 s8 s9 s10 s11 s12) k1 ha hr1 hr2 1 rfl
  simp only [V, List.set_cons_zero, List.set_cons_succ] at e1 e2
  refine ⟨s, h2, ?_, hs, k2⟩
  simp [I1, V, k.fl, k1.fl, i23, i34, e1, e2, clp]
theorem seen_again {s s' : List Lk} (hs : Seen as s) (h : s'.map (·.1) = s.map (·.1)) : Seen as s' := by
  have h1 := hs.lot
  rw [← h] at h1
  exact ⟨fun x hx => h1.sub x.1 (List.mem_map.mpr ⟨x, hx, rfl⟩), List.pairwise_map.mp h1.asc⟩
theorem t_I2 {s : List Lk} (k : HandOk h) (ha : Arr m as) (hs : Seen as s) (h11 : ∀ t, s11 = some t → t.fl = false) : ∃ (s' : List Lk) (h' : T), evS CL I2 (V sc (some h) s2 (some (.int m)) (some (.tup (as.map Enc.enc))) s5 s6 s7 (some (.tup (s.map Enc.enc))) s9 s10 s11 s12) = .nx (V sc (some h') s2 (some (.int m)) (some (.tup (as.map Enc.enc))) s5 s6 s7 (some (.tup (s'.map Enc.enc))) s9 s10 s11 s12) ∧ Seen as s' ∧ HandOk h' := by
  have hsl := Nat.le_trans hs.len ha.len
  obtain ⟨d, h1, e1, hd, k1⟩ := callF_draw (f := CL.fs 22) (by rw [cfs (by decide)]; exact f22) (m := 4) (η := V sc (some h) s2 (some (.int m)) (some (.tup (as.map Enc.enc))) s5 s6 s7 (some (.tup (s.map Enc.enc))) s9 s10 s11 s12) k (by decide) (by decide) 1 rfl
  simp only [V, List.set_cons_zero, List.set_cons_succ] at e1
  simp at e1
  by_cases hz : d = 0
  · subst hz
    obtain ⟨η', acc', e2, h', s', rfl, rfl, hf, k'⟩ := lcL_run (f := turnL CL (.tup [.slot 11, .cmp .NotEq (.slot 13) (.cmp .Eq (.call 22 [.slot 1, .cst (.int 6)]) (.cst (.int 0)))]) (.t [.s 11, .s 13]) [] [11, 13]) (s.map Enc.enc)
      (fun i η acc => ∃ (h' : T) (s' : List Lk), η = V sc (some h') s2 (some (.int m)) (some (.tup (as.map Enc.enc))) s5 s6 s7 (some (.tup (s.map Enc.enc))) s9 s10 none s12 ∧ acc = s'.map Enc.enc ∧ s'.map (·.1) = (s.map (·.1)).take i ∧ HandOk h')
      (η := V sc (some h1) s2 (some (.int m)) (some (.tup (as.map Enc.enc))) s5 s6 s7 (some (.tup (s.map Enc.enc))) s9 s10 none s12) (acc := []) ⟨h1, [], rfl, rfl, by simp, k1⟩ (by simp [sizeL]; omega) (by
        rintro i t η acc hi ⟨h', s', rfl, rfl, hf, k'⟩
        rw [List.getElem?_map] at hi
        obtain ⟨x, hxi, rfl⟩ := Option.map_eq_some_iff.mp hi
        have htk : (s.map (·.1)).take (i + 1) = (s.map (·.1)).take i ++ [x.1] := by rw [List.take_add_one, List.getElem?_map, hxi]; rfl
        obtain ⟨c, h'', e3, hc, k''⟩ := callF_draw (f := CL.fs 22) (by rw [cfs (by decide)]; exact f22) (m := 6) (η := [sc, some h', s2, some (.int m), some (.tup (as.map Enc.enc)), s5, s6, s7, some (.tup (s.map Enc.enc)), s9, s10, some (Enc.enc x.1), s12, some (.bl x.2), none]) k' (by decide) (by decide) 1 rfl
        simp only [List.set_cons_zero, List.set_cons_succ] at e3
        simp at e3
        refine ⟨some (Enc.enc ((x.1, !decide (x.2 = decide (c = 0))) : Lk)), V sc (some h'') s2 (some (.int m)) (some (.tup (as.map Enc.enc))) s5 s6 s7 (some (.tup (s.map Enc.enc))) s9 s10 none s12, ?_, h'', s' ++ [(x.1, !decide (x.2 = decide (c = 0)))], rfl, by simp, ?_, k''⟩
        · by_cases hc0 : c = 0
          · simp [turnL, V, k'.fl, i22, e3, hc0, c_neB] <;> rfl
          · have hc1 : ¬ ((c : Int) = 0) := by omega
            simp [turnL, V, k'.fl, i22, e3, hc0, hc1, c_neB] <;> rfl
        · rw [htk, List.map_append, hf]; rfl)
    rw [List.length_map] at hf
    have hf' : s'.map (·.1) = s.map (·.1) := by rw [hf, List.take_of_length_le (by simp)]
    refine ⟨s', h', ?_, seen_again hs hf', k'⟩
    have l1 : evE CL (.lc (.tup [.slot 11, .cmp .NotEq (.slot 13) (.cmp .Eq (.call 22 [.slot 1, .cst (.int 6)]) (.cst (.int 0)))]) (.t [.s 11, .s 13]) (.val (.slot 8)) [] [11, 13]) [sc, some h1, s2, some (.int m), some (.tup (as.map Enc.enc)), s5, s6, s7, some (.tup (s.map Enc.enc)), s9, s10, s11, s12, none, none] =
        .ok (.v (.lst true (s'.map Enc.enc)), [sc, some h', s2, some (.int m), some (.tup (as.map Enc.enc)), s5, s6, s7, some (.tup (s.map Enc.enc)), s9, s10, s11, s12, none, none]) := by
      have hp11 : plainSl [sc, some h1, s2, some (.int m), some (.tup (as.map Enc.enc)), s5, s6, s7, some (.tup (s.map Enc.enc)), s9, s10, s11, s12, none, none] 11 = true := by
        cases hs11 : s11 with
        | none => rfl
        | some t => simp [plainSl, h11 t hs11]
      have hp13 : plainSl [sc, some h1, s2, some (.int m), some (.tup (as.map Enc.enc)), s5, s6, s7, some (.tup (s.map Enc.enc)), s9, s10, s11, s12, none, none] 13 = true := rfl
      rw [lc_eq, show evIt CL (.val (.slot 8)) [sc, some h1, s2, some (.int m), some (.tup (as.map Enc.enc)), s5, s6, s7, some (.tup (s.map Enc.enc)), s9, s10, s11, s12, none, none] = .ok (s.map Enc.enc, [sc, some h1, s2, some (.int m), some (.tup (as.map Enc.enc)), s5, s6, s7, some (.tup (s.map Enc.enc)), s9, s10, s11, s12, none, none]) by simp]
      simp only [rb_ok]
      rw [if_pos (by simp [hp11, hp13, clp])]
      have e2' : lcL (turnL CL (.tup [.slot 11, .cmp .NotEq (.slot 13) (.cmp .Eq (.call 22 [.slot 1, .cst (.int 6)]) (.cst (.int 0)))]) (.t [.s 11, .s 13]) [] [11, 13]) (s.map Enc.enc) [sc, some h1, s2, some (.int m), some (.tup (as.map Enc.enc)), s5, s6, s7, some (.tup (s.map Enc.enc)), s9, s10, none, s12, none, none] [] = _ := e2
      simp only [wipe_nil, wipe_cons, List.set_cons_succ, List.set_cons_zero, e2']
      simp [V]
    simp [I2, V, k.fl, i22, e1, l1, clp]
  · have hz' : ¬ ((d : Int) = 0) := by omega
    refine ⟨s, h1, ?_, hs, k1⟩
    simp [I2, V, k.fl, i22, e1, hz', hz]
end
theorem sureT_fl (d : Option (List Pr × List Pr)) : (sureT d).fl = false := by cases d <;> rfl
theorem sureT_frz (d : Option (List Pr × List Pr)) : (sureT d).frz = sureT d := by cases d <;> simp [sureT]
theorem sureT_sh (d : Option (List Pr × List Pr)) : (sureT d).sh = true := by cases d <;> simp [sureT]
theorem is_sure {d : Option (List Pr × List Pr)} (h : ∀ x, d = some x → x.1.length ≤ 1000 ∧ x.2.length ≤ 1000) : CL.fs 28 [sureT d, sureT d] = .ok (.bl true, []) := by
  rw [cfs (by decide)]
  cases d with
  | none => exact f28n
  | some x =>
    obtain ⟨h1, h2⟩ := h x rfl
    refine f28 [.tup (x.1.map Enc.enc), .tup (x.2.map Enc.enc)] (by simp) (by simp) (by
      intro t ht
      simp only [List.mem_cons, List.not_mem_nil, or_false] at ht
      rcases ht with rfl | rfl
      · exact ⟨_, rfl, h1⟩
      · exact ⟨_, rfl, h2⟩)
theorem ix_0 (η : TV.Env) (A B : List Pr) : idxE η (.v (.tup [.tup (A.map Enc.enc), .tup (B.map Enc.enc)])) (.int 0) = some (.v (.tup (A.map Enc.enc))) := by
  have h : (T.tup [.tup (A.map Enc.enc), .tup (B.map Enc.enc)]).sh = true := by simp
  show (if _ then _ else _) = _
  rw [if_pos h]; rfl
theorem ix_1 (η : TV.Env) (A B : List Pr) : idxE η (.v (.tup [.tup (A.map Enc.enc), .tup (B.map Enc.enc)])) (.int 1) = some (.v (.tup (B.map Enc.enc))) := by
  have h : (T.tup [.tup (A.map Enc.enc), .tup (B.map Enc.enc)]).sh = true := by simp
  show (if _ then _ else _) = _
  rw [if_pos h]; rfl
section
variable {sc s2 s6 s7 s9 s10 s11 s12 : Option T} {h : T} {m : Nat} {as lot : List Pr} {s : List Lk} {o : Bool}
theorem t_I3 (hm1 : 1 ≤ m) (hm : m ≤ 1000) (ha : Arr m as) (hs : Seen as s) : evS CL I3 (V sc (some h) s2 (some (.int m)) (some (.tup (as.map Enc.enc))) (some (H o m as)) s6 s7 (some (.tup (s.map Enc.enc))) s9 s10 s11 s12) = .nx (V sc (some h) s2 (some (.int m)) (some (.tup (as.map Enc.enc))) (some (H o m as)) s6 s7 (some (.tup (s.map Enc.enc))) (some (sureT (sureP as (s.map seenPr)))) s10 s11 s12) := by
  have e36 : CL.fs 36 [.int m, .tup (as.map Enc.enc), .tup (s.map Enc.enc)] = .ok (sureT (sureP as (s.map seenPr)), []) := by rw [cfs (by decide)]; exact f36 m as s hm1 hm ha hs
  simp [I3, V, i36, callF, e36, clp]
theorem t_I4 (hm1 : 1 ≤ m) (hm : m ≤ 1000) (ha : Arr m as) (hs : Seen as s) : evS CL I4 (V sc (some h) s2 (some (.int m)) (some (.tup (as.map Enc.enc))) (some (H o m as)) s6 s7 (some (.tup (s.map Enc.enc))) (some (sureT (sureP as (s.map seenPr)))) s10 s11 s12) = .nx (V sc (some h) s2 (some (.int m)) (some (.tup (as.map Enc.enc))) (some (H false m as)) s6 s7 (some (.tup (s.map Enc.enc))) (some (sureT (sureP as (s.map seenPr)))) s10 s11 s12) := by
  obtain ⟨d, hd⟩ : ∃ d, d = sureP as (s.map seenPr) := ⟨_, rfl⟩
  have e20 : CL.fs 20 [H false m as, .tup (s.map Enc.enc)] = .ok (sureT d, []) := by rw [cfs (by decide), hd]; exact f20 m as s hm1 hm ha hs
  have e16 : CL.fs 16 [H false m as, .tup (s.map Enc.enc)] = .ok (.bl true, []) := by rw [cfs (by decide)]; exact f16 m as s ha hs
  have e29 : CL.fs 29 [.bl true, .bl true] = .ok (.bl true, []) := by rw [cfs (by decide)]; exact f29
  have e28 : CL.fs 28 [sureT d, sureT d] = .ok (.bl true, []) := is_sure fun x hx => by
    rw [hd] at hx
    by_cases hac : Acyc (s.map seenPr)
    · rw [sureP_some hac] at hx
      cases hx
      obtain ⟨q1, q2⟩ := due_len as (s.map seenPr)
      have := ha.len
      exact ⟨by dsimp only; omega, by dsimp only; omega⟩
    · rw [sureP_none hac] at hx; cases hx
  rw [← hd]
  cases o <;> simp [I4, V, i16, i20, i28, i29, callF, e20, e16, e28, e29, sureT_fl, sureT_frz]
theorem t_I5 (ha : Arr m as) (hs : Seen as s) (h11 : ∀ t, s11 = some t → t.fl = false) : evS CL I5 (V sc (some h) s2 (some (.int m)) (some (.tup (as.map Enc.enc))) (some (H false m as)) s6 s7 (some (.tup (s.map Enc.enc))) (some (sureT (sureP as (s.map seenPr)))) s10 s11 s12) = .nx (V sc (some h) s2 (some (.int m)) (some (.tup (as.map Enc.enc))) (some (H false m as)) s6 s7 (some (.tup (s.map Enc.enc))) (some (sureT (sureP as (s.map seenPr)))) s10 s11 s12) := by
  by_cases hac : Acyc (s.map seenPr)
  · obtain ⟨A, hA⟩ : ∃ A, A = due0 as (s.map seenPr) := ⟨_, rfl⟩
    obtain ⟨B, hB⟩ : ∃ B, B = due1 as (s.map seenPr) := ⟨_, rfl⟩
    rw [sureP_some hac, ← hA, ← hB, show sureT (some (A, B)) = .tup [.tup (A.map Enc.enc), .tup (B.map Enc.enc)] from rfl]
    have hsl := Nat.le_trans hs.len ha.len
    have hp11 : plainSl [sc, some h, s2, some (.int m), some (.tup (as.map Enc.enc)), some (H false m as), s6, s7, some (.tup (s.map Enc.enc)), some (.tup [.tup (A.map Enc.enc), .tup (B.map Enc.enc)]), s10, s11, s12, none, none] 11 = true := by
      cases hs11 : s11 with
      | none => rfl
      | some t => simp [plainSl, h11 t hs11]
    have hp13 : plainSl [sc, some h, s2, some (.int m), some (.tup (as.map Enc.enc)), some (H false m as), s6, s7, some (.tup (s.map Enc.enc)), some (.tup [.tup (A.map Enc.enc), .tup (B.map Enc.enc)]), s10, s11, s12, none, none] 13 = true := rfl
    have l1 : evE CL (.lc (.cmp .In (.slot 11) (.idx (.slot 9) (.bf .int [.not_ (.slot 13)]))) (.t [.s 11, .s 13]) (.val (.slot 8)) [] [11, 13]) [sc, some h, s2, some (.int m), some (.tup (as.map Enc.enc)), some (H false m as), s6, s7, some (.tup (s.map Enc.enc)), some (.tup [.tup (A.map Enc.enc), .tup (B.map Enc.enc)]), s10, s11, s12, none, none] =
        .ok (.v (.lst true (s.map fun _ => .bl true)), [sc, some h, s2, some (.int m), some (.tup (as.map Enc.enc)), some (H false m as), s6, s7, some (.tup (s.map Enc.enc)), some (.tup [.tup (A.map Enc.enc), .tup (B.map Enc.enc)]), s10, s11, s12, none, none]) := by
      rw [lc_map Enc.enc (fun _ : Lk => .bl true) s (η1 := [sc, some h, s2, some (.int m), some (.tup (as.map Enc.enc)), some (H false m as), s6, s7, some (.tup (s.map Enc.enc)), some (.tup [.tup (A.map Enc.enc), .tup (B.map Enc.enc)]), s10, s11, s12, none, none])]
      · simp
      · simp
      · simp [hp11, hp13, clp]
      · simp only [sizeL]; omega
      · rintro ⟨a, b⟩ hx
        have hd := seen_due hs hx
        cases b with
        | true =>
          have e : cmpT .In (Enc.enc a) (.tup (A.map Enc.enc)) = some (.bl true) := by
            have hm : a ∈ A := by rw [hA]; exact hd
            exact (c_inT (α := Pr) (by decide) a A).trans (by simp [hm])
          simp [turnL, ix_0, e]
        | false =>
          have e : cmpT .In (Enc.enc a) (.tup (B.map Enc.enc)) = some (.bl true) := by
            have hm : a ∈ B := by rw [hB]; exact hd
            exact (c_inT (α := Pr) (by decide) a B).trans (by simp [hm])
          simp [turnL, ix_1, e]
    have ha2 : bfT .all [.lst true (s.map fun _ => T.bl true)] = some (.bl true) := by
      refine (all_bls true (fun _ : Lk => true) s).trans ?_
      rw [List.all_eq_true.mpr fun _ _ => rfl]
    have hf2 : fzs (s.map fun _ => T.bl true) = true := fzs_bls (fun _ : Lk => true) s
    obtain ⟨Z, hZ⟩ : ∃ Z, Z = s.map fun _ => T.bl true := ⟨_, rfl⟩
    rw [← hZ] at l1 ha2 hf2
    simp [I5, V, l1, ha2, hf2]
  · rw [sureP_none hac]
    simp [I5, V, sureT]
theorem t_I6 (k : HandOk h) (hm1 : 1 ≤ m) (hm : m ≤ 1000) (ha : Arr m as) (hs : Seen as s) (h11 : ∀ t, s11 = some t → t.fl = false) : ∃ (h' : T) (s10' s11' s12' : Option T), evS CL I6 (V sc (some h) s2 (some (.int m)) (some (.tup (as.map Enc.enc))) (some (H false m as)) s6 s7 (some (.tup (s.map Enc.enc))) (some (sureT (sureP as (s.map seenPr)))) s10 s11 s12) = .nx (V sc (some h') s2 (some (.int m)) (some (.tup (as.map Enc.enc))) (some (H false m as)) s6 s7 (some (.tup (s.map Enc.enc))) (some (sureT (sureP as (s.map seenPr)))) s10' s11' s12') ∧ HandOk h' ∧ ∀ t, s11' = some t → t.fl = false := by
  by_cases hac : Acyc (s.map seenPr)
  · have hflags := flags_seen ha hac
    have hfs := flags_sure ha hs hac
    obtain ⟨ps, hps⟩ : ∃ ps, ps = s.map seenPr := ⟨_, rfl⟩
    rw [← hps] at hac hflags hfs ⊢
    rw [sureP_some hac] at hfs ⊢
    obtain ⟨A, hA⟩ : ∃ A, A = due0 as ps := ⟨_, rfl⟩
    obtain ⟨B, hB⟩ : ∃ B, B = due1 as ps := ⟨_, rfl⟩
    obtain ⟨D, hD⟩ : ∃ D, D = T.tup [.tup (A.map Enc.enc), .tup (B.map Enc.enc)] := ⟨_, rfl⟩
    rw [← hA, ← hB] at hfs ⊢
    rw [show sureT (some (A, B)) = D from hD.symm]
    have ix0 : ∀ η, idxE η (.v D) (.int 0) = some (.v (.tup (A.map Enc.enc))) := fun η => by rw [hD]; exact ix_0 η A B
    have ix1 : ∀ η, idxE η (.v D) (.int 1) = some (.v (.tup (B.map Enc.enc))) := fun η => by rw [hD]; exact ix_1 η A B
    have Dfl : D.fl = false := by rw [hD]; rfl
    have Dsh : D.sh = true := by rw [hD]; simp
    have Dfz : D.frz = D := by rw [hD]; simp
    have Dnn : D.isNon = false := by rw [hD]; rfl
    obtain ⟨q1, q2⟩ := due_len as ps
    rw [← hA] at q1
    rw [← hB] at q2
    have hal := ha.len
    by_cases hz : as = []
    · subst hz
      refine ⟨h, s10, s11, s12, ?_, k, h11⟩
      simp [I6, V, Dfl, Dsh, Dnn]
    · have hpos : 0 < as.length := List.length_pos_iff.mpr hz
      have hp11 : ∀ s10 s11 s12 h, (∀ t, s11 = some t → t.fl = false) → plainSl [sc, some h, s2, some (.int m), some (.tup (as.map Enc.enc)), some (H false m as), s6, s7, some (.tup (s.map Enc.enc)), some D, s10, s11, s12, none, none] 11 = true := fun s10 s11 s12 h hh => by
        cases hs11 : s11 with
        | none => rfl
        | some t => simp [plainSl, hh t hs11]
      -- the flags
      have l1 : evE CL (.lc (.tup [.slot 11, .cst (.bl true)]) (.s 11) (.val (.idx (.slot 9) (.cst (.int 0)))) [] [11]) [sc, some h, s2, some (.int m), some (.tup (as.map Enc.enc)), some (H false m as), s6, s7, some (.tup (s.map Enc.enc)), some D, s10, s11, s12, none, none] =
          .ok (.v (.lst true ((A.map fun a => ((a, true) : Lk)).map Enc.enc)), [sc, some h, s2, some (.int m), some (.tup (as.map Enc.enc)), some (H false m as), s6, s7, some (.tup (s.map Enc.enc)), some D, s10, s11, s12, none, none]) := by
        rw [lc_map Enc.enc (fun a : Pr => (Enc.enc ((a, true) : Lk) : T)) A (η1 := [sc, some h, s2, some (.int m), some (.tup (as.map Enc.enc)), some (H false m as), s6, s7, some (.tup (s.map Enc.enc)), some D, s10, s11, s12, none, none])]
        · rw [List.map_map]; simp
        · simp [Dfl, ix0]
        · simp [hp11 _ _ _ _ h11, clp]
        · simp only [sizeL]; omega
        · intro a _
          simp [turnL] <;> rfl
      have l2 : evE CL (.lc (.tup [.slot 11, .cst (.bl false)]) (.s 11) (.val (.idx (.slot 9) (.cst (.int 1)))) [] [11]) [sc, some h, s2, some (.int m), some (.tup (as.map Enc.enc)), some (H false m as), s6, s7, some (.tup (s.map Enc.enc)), some D, s10, s11, s12, none, none] =
          .ok (.v (.lst true ((B.map fun a => ((a, false) : Lk)).map Enc.enc)), [sc, some h, s2, some (.int m), some (.tup (as.map Enc.enc)), some (H false m as), s6, s7, some (.tup (s.map Enc.enc)), some D, s10, s11, s12, none, none]) := by
        rw [lc_map Enc.enc (fun a : Pr => (Enc.enc ((a, false) : Lk) : T)) B (η1 := [sc, some h, s2, some (.int m), some (.tup (as.map Enc.enc)), some (H false m as), s6, s7, some (.tup (s.map Enc.enc)), some D, s10, s11, s12, none, none])]
        · rw [List.map_map]; simp
        · simp [Dfl, ix1]
        · simp [hp11 _ _ _ _ h11, clp]
        · simp only [sizeL]; omega
        · intro a _
          simp [turnL] <;> rfl
      obtain ⟨FA, hFA⟩ : ∃ FA, FA = A.map fun a => ((a, true) : Lk) := ⟨_, rfl⟩
      obtain ⟨FB, hFB⟩ : ∃ FB, FB = B.map fun a => ((a, false) : Lk) := ⟨_, rfl⟩
      obtain ⟨FL, hFL⟩ : ∃ FL, FL = flagsP as ps := ⟨_, rfl⟩
      have hFAB : FA ++ FB = FL := by rw [hFA, hFB, hA, hB, hFL]; rfl
      rw [← hFA] at l1
      rw [← hFB] at l2
      rw [← hFL] at hflags hfs
      have hadd : binT .Add (.lst true (FA.map Enc.enc)) (.lst true (FB.map Enc.enc)) = some (.lst true (FL.map Enc.enc)) := by
        simp only [binT]
        rw [if_pos (by rw [hFA, hFB]; simp only [List.length_map, sizeL]; omega), ← List.map_append, hFAB]
      have t1 : evS CL J1 [sc, some h, s2, some (.int m), some (.tup (as.map Enc.enc)), some (H false m as), s6, s7, some (.tup (s.map Enc.enc)), some D, s10, s11, s12, none, none] = .nx [sc, some h, s2, some (.int m), some (.tup (as.map Enc.enc)), some (H false m as), s6, s7, some (.tup (s.map Enc.enc)), some D, some (.lst true (FL.map Enc.enc)), s11, s12, none, none] := by
        simp [J1, l1, l2, hadd, clp]
      have hsF : bfT .sorted [.lst true (FL.map Enc.enc)] = some (.lst true ((srt FL).map Enc.enc)) := f_sortP (α := Pr) (β := Bool) (by decide) FL rfl
      have e20 : CL.fs 20 [H false m as, .tup ((srt FL).map Enc.enc)] = .ok (D, []) := by
        rw [cfs (by decide), hD]
        have := f20 m as (srt FL) hm1 hm ha hflags
        rw [hfs] at this
        exact this
      have hneD : cmpT .NotEq D D = some (.bl false) := by
        rw [hD]
        exact (c_neE (α := List Pr × List Pr) (by decide) (A, B) (A, B)).trans (by simp)
      have t2 : evS CL J2 [sc, some h, s2, some (.int m), some (.tup (as.map Enc.enc)), some (H false m as), s6, s7, some (.tup (s.map Enc.enc)), some D, some (.lst true (FL.map Enc.enc)), s11, s12, none, none] = .nx [sc, some h, s2, some (.int m), some (.tup (as.map Enc.enc)), some (H false m as), s6, s7, some (.tup (s.map Enc.enc)), some D, some (.lst true (FL.map Enc.enc)), s11, s12, none, none] := by
        simp [J2, hsF, i20, callF, e20, Dfl, Dsh, hneD]
      -- an arrow
      obtain ⟨x, h1, e3, hx, k1⟩ := call_some (f := CL.fs 23) (by rw [cfs (by decide)]; exact f23) (t := .tup (as.map Enc.enc)) (t' := .tup (as.map Enc.enc)) (ts := as.map Enc.enc) (η := [sc, some h, s2, some (.int m), some (.tup (as.map Enc.enc)), some (H false m as), s6, s7, some (.tup (s.map Enc.enc)), some D, some (.lst true (FL.map Enc.enc)), s11, s12, none, none]) k (by simp) rfl rfl (by simp) (by simp) (by simp; omega) (by simpa using hal) 1 rfl
      obtain ⟨a, haa, rfl⟩ := List.mem_map.mp hx
      simp only [List.set_cons_zero, List.set_cons_succ] at e3
      have t3 : evS CL J3 [sc, some h, s2, some (.int m), some (.tup (as.map Enc.enc)), some (H false m as), s6, s7, some (.tup (s.map Enc.enc)), some D, some (.lst true (FL.map Enc.enc)), s11, s12, none, none] = .nx [sc, some h1, s2, some (.int m), some (.tup (as.map Enc.enc)), some (H false m as), s6, s7, some (.tup (s.map Enc.enc)), some D, some (.lst true (FL.map Enc.enc)), some (Enc.enc a), s12, none, none] := by
        simp [J3, k.fl, i23, e3, clp]
      -- seen with it
      have hin : cmpT .In (Enc.enc a) (.tup (A.map Enc.enc)) = some (.bl (decide (a ∈ A))) := (c_inT (α := Pr) (by decide) a A).trans (by congr)
      obtain ⟨b, hb⟩ : ∃ b, b = decide (a ∈ A) := ⟨_, rfl⟩
      rw [← hb] at hin
      have hbA : b = true ↔ a ∈ due0 as (s.map seenPr) := by rw [hb, hA, hps, decide_eq_true_eq]
      have hw := with_seen hs haa b
      obtain ⟨hwac, hwm⟩ := with_acyc ha hs (by rw [← hps]; exact hac) haa hbA
      have e37 : CL.fs 37 [.tup (s.map Enc.enc), Enc.enc a, .bl b] = .ok (.tup ((withP s a b).map Enc.enc), []) := by rw [cfs (by decide)]; exact f37 s a b (Nat.le_trans hs.len hal)
      obtain ⟨A', hA'⟩ : ∃ A', A' = due0 as ((withP s a b).map seenPr) := ⟨_, rfl⟩
      obtain ⟨B', hB'⟩ : ∃ B', B' = due1 as ((withP s a b).map seenPr) := ⟨_, rfl⟩
      obtain ⟨D', hD'⟩ : ∃ D', D' = T.tup [.tup (A'.map Enc.enc), .tup (B'.map Enc.enc)] := ⟨_, rfl⟩
      have e20' : CL.fs 20 [H false m as, .tup ((withP s a b).map Enc.enc)] = .ok (D', []) := by
        rw [cfs (by decide), hD', hA', hB']
        have := f20 m as (withP s a b) hm1 hm ha hw
        rw [sureP_some hwac] at this
        exact this
      have ix0' : ∀ η, idxE η (.v D') (.int 0) = some (.v (.tup (A'.map Enc.enc))) := fun η => by rw [hD']; exact ix_0 η A' B'
      have ix1' : ∀ η, idxE η (.v D') (.int 1) = some (.v (.tup (B'.map Enc.enc))) := fun η => by rw [hD']; exact ix_1 η A' B'
      have Dfl' : D'.fl = false := by rw [hD']; rfl
      have Dsh' : D'.sh = true := by rw [hD']; simp
      have Dnn' : D'.isNon = false := by rw [hD']; rfl
      have t4 : evS CL J4 [sc, some h1, s2, some (.int m), some (.tup (as.map Enc.enc)), some (H false m as), s6, s7, some (.tup (s.map Enc.enc)), some D, some (.lst true (FL.map Enc.enc)), some (Enc.enc a), s12, none, none] = .nx [sc, some h1, s2, some (.int m), some (.tup (as.map Enc.enc)), some (H false m as), s6, s7, some (.tup (s.map Enc.enc)), some D, some (.lst true (FL.map Enc.enc)), some (Enc.enc a), some D', none, none] := by
        simp [J4, i20, i37, callF, Dfl, ix0, hin, e37, e20', clp]
      -- what was sure stays so
      obtain ⟨m0, m1⟩ := due_mono (as := as) hwm
      rw [← hps, ← hA, ← hA'] at m0
      rw [← hps, ← hB, ← hB'] at m1
      have hall : ∀ l : List Pr, bfT .all [.lst true (l.map fun _ => T.bl true)] = some (.bl true) := fun l => by
        refine (all_bls true (fun _ : Pr => true) l).trans ?_
        rw [List.all_eq_true.mpr fun _ _ => rfl]
      have hfz : ∀ l : List Pr, fzs (l.map fun _ => T.bl true) = true := fun l => fzs_bls (fun _ : Pr => true) l
      have l5 : evE CL (.lc (.cmp .In (.slot 14) (.idx (.slot 12) (.cst (.int 0)))) (.s 14) (.val (.idx (.slot 9) (.cst (.int 0)))) [] [14]) [sc, some h1, s2, some (.int m), some (.tup (as.map Enc.enc)), some (H false m as), s6, s7, some (.tup (s.map Enc.enc)), some D, some (.lst true (FL.map Enc.enc)), some (Enc.enc a), some D', none, none] =
          .ok (.v (.lst true (A.map fun _ => .bl true)), [sc, some h1, s2, some (.int m), some (.tup (as.map Enc.enc)), some (H false m as), s6, s7, some (.tup (s.map Enc.enc)), some D, some (.lst true (FL.map Enc.enc)), some (Enc.enc a), some D', none, none]) := by
        rw [lc_map Enc.enc (fun _ : Pr => .bl true) A (η1 := [sc, some h1, s2, some (.int m), some (.tup (as.map Enc.enc)), some (H false m as), s6, s7, some (.tup (s.map Enc.enc)), some D, some (.lst true (FL.map Enc.enc)), some (Enc.enc a), some D', none, none])]
        · simp
        · simp [Dfl, ix0]
        · simp [plainSl, clp]
        · simp only [sizeL]; omega
        · intro p hp
          have e : cmpT .In (Enc.enc p) (.tup (A'.map Enc.enc)) = some (.bl true) := ((c_inT (α := Pr) (by decide) p A').trans (by simp [m0 p hp]))
          simp [turnL, Dfl', ix0', e]
      have l6 : evE CL (.lc (.cmp .In (.slot 14) (.idx (.slot 12) (.cst (.int 1)))) (.s 14) (.val (.idx (.slot 9) (.cst (.int 1)))) [] [14]) [sc, some h1, s2, some (.int m), some (.tup (as.map Enc.enc)), some (H false m as), s6, s7, some (.tup (s.map Enc.enc)), some D, some (.lst true (FL.map Enc.enc)), some (Enc.enc a), some D', none, none] =
          .ok (.v (.lst true (B.map fun _ => .bl true)), [sc, some h1, s2, some (.int m), some (.tup (as.map Enc.enc)), some (H false m as), s6, s7, some (.tup (s.map Enc.enc)), some D, some (.lst true (FL.map Enc.enc)), some (Enc.enc a), some D', none, none]) := by
        rw [lc_map Enc.enc (fun _ : Pr => .bl true) B (η1 := [sc, some h1, s2, some (.int m), some (.tup (as.map Enc.enc)), some (H false m as), s6, s7, some (.tup (s.map Enc.enc)), some D, some (.lst true (FL.map Enc.enc)), some (Enc.enc a), some D', none, none])]
        · simp
        · simp [Dfl, ix1]
        · simp [plainSl, clp]
        · simp only [sizeL]; omega
        · intro p hp
          have e : cmpT .In (Enc.enc p) (.tup (B'.map Enc.enc)) = some (.bl true) := ((c_inT (α := Pr) (by decide) p B').trans (by simp [m1 p hp]))
          simp [turnL, Dfl', ix1', e]
      have a5 := hall A
      have a6 := hall B
      have z5 := hfz A
      have z6 := hfz B
      obtain ⟨Z5, hZ5⟩ : ∃ Z, Z = A.map fun _ => T.bl true := ⟨_, rfl⟩
      obtain ⟨Z6, hZ6⟩ : ∃ Z, Z = B.map fun _ => T.bl true := ⟨_, rfl⟩
      rw [← hZ5] at l5 a5 z5
      rw [← hZ6] at l6 a6 z6
      have t5 : evS CL J5 [sc, some h1, s2, some (.int m), some (.tup (as.map Enc.enc)), some (H false m as), s6, s7, some (.tup (s.map Enc.enc)), some D, some (.lst true (FL.map Enc.enc)), some (Enc.enc a), some D', none, none] = .nx [sc, some h1, s2, some (.int m), some (.tup (as.map Enc.enc)), some (H false m as), s6, s7, some (.tup (s.map Enc.enc)), some D, some (.lst true (FL.map Enc.enc)), some (Enc.enc a), some D', none, none] := by
        simp [J5, Dfl', Dsh', Dnn', l5, a5, z5]
      have t6 : evS CL J6 [sc, some h1, s2, some (.int m), some (.tup (as.map Enc.enc)), some (H false m as), s6, s7, some (.tup (s.map Enc.enc)), some D, some (.lst true (FL.map Enc.enc)), some (Enc.enc a), some D', none, none] = .nx [sc, some h1, s2, some (.int m), some (.tup (as.map Enc.enc)), some (H false m as), s6, s7, some (.tup (s.map Enc.enc)), some D, some (.lst true (FL.map Enc.enc)), some (Enc.enc a), some D', none, none] := by
        simp [J6, l6, a6, z6]
      refine ⟨h1, some (.lst true (FL.map Enc.enc)), some (Enc.enc a), some D', ?_, k1, fun t ht => by cases ht; simp⟩
      have hcond : evE CL (.tand (.cmp .IsNot (.slot 9) (.cst .non)) (.cmp .Gt (.bf .len [.slot 4]) (.cst (.int 0)))) [sc, some h, s2, some (.int m), some (.tup (as.map Enc.enc)), some (H false m as), s6, s7, some (.tup (s.map Enc.enc)), some D, s10, s11, s12, none, none] = .ok (.v (.bl true), [sc, some h, s2, some (.int m), some (.tup (as.map Enc.enc)), some (H false m as), s6, s7, some (.tup (s.map Enc.enc)), some D, s10, s11, s12, none, none]) := by
        simp [Dfl, Dsh, Dnn, hpos]
      show evS CL (.ife _ [J1, J2, J3, J4, J5, J6] []) [sc, some h, s2, some (.int m), some (.tup (as.map Enc.enc)), some (H false m as), s6, s7, some (.tup (s.map Enc.enc)), some D, s10, s11, s12, none, none] = _
      rw [x_if, hcond]
      simp only [ro_ok, tru_v, try_bl]
      rw [evB_nx t1, evB_nx t2, evB_nx t3, evB_nx t4, evB_nx t5, evB_nx t6, x_B0]
      rfl
  · rw [sureP_none hac]
    refine ⟨h, s10, s11, s12, ?_, k, h11⟩
    simp [I6, V, sureT]
end
theorem inner_ok {sc s2 s7 s8 s9 s10 s11 s12 : Option T} {h : T} {m : Nat} {as lot : List Pr} {o : Bool} (k : HandOk h) (hm1 : 1 ≤ m) (hm : m ≤ 1000) (ha : Arr m as) (h11 : ∀ t, s11 = some t → t.fl = false) :
    ∃ (h' : T) (s8' s9' s10' s11' s12' : Option T), evB CL inner (V sc (some h) s2 (some (.int m)) (some (.tup (as.map Enc.enc))) (some (H o m as)) (some (.tup (lot.map Enc.enc))) s7 s8 s9 s10 s11 s12) = .nx (V sc (some h') s2 (some (.int m)) (some (.tup (as.map Enc.enc))) (some (H false m as)) (some (.tup (lot.map Enc.enc))) s7 s8' s9' s10' s11' s12') ∧ HandOk h' ∧ ∀ t, s11' = some t → t.fl = false := by
  obtain ⟨s, h1, t1, hs, k1⟩ := t_I1 (sc := sc) (s2 := s2) (s5 := some (H o m as)) (s7 := s7) (s8 := s8) (s9 := s9) (s10 := s10) (s11 := s11) (s12 := s12) (lot := lot) k ha
  obtain ⟨s', h2, t2, hs', k2⟩ := t_I2 (sc := sc) (s2 := s2) (s5 := some (H o m as)) (s6 := some (.tup (lot.map Enc.enc))) (s7 := s7) (s9 := s9) (s10 := s10) (s11 := s11) (s12 := s12) k1 ha hs h11
  have t3 := t_I3 (sc := sc) (s2 := s2) (s6 := some (.tup (lot.map Enc.enc))) (s7 := s7) (s9 := s9) (s10 := s10) (s11 := s11) (s12 := s12) (h := h2) (o := o) hm1 hm ha hs'
  have t4 := t_I4 (sc := sc) (s2 := s2) (s6 := some (.tup (lot.map Enc.enc))) (s7 := s7) (s10 := s10) (s11 := s11) (s12 := s12) (h := h2) (o := o) hm1 hm ha hs'
  have t5 := t_I5 (sc := sc) (s2 := s2) (s6 := some (.tup (lot.map Enc.enc))) (s7 := s7) (s10 := s10) (s11 := s11) (s12 := s12) (h := h2) ha hs' h11
  obtain ⟨h3, s10', s11', s12', t6, k3, h11'⟩ := t_I6 (sc := sc) (s2 := s2) (s6 := some (.tup (lot.map Enc.enc))) (s7 := s7) (s10 := s10) (s11 := s11) (s12 := s12) k2 hm1 hm ha hs' h11
  refine ⟨h3, some (.tup (s'.map Enc.enc)), some (sureT (sureP as (s'.map seenPr))), s10', s11', s12', ?_, k3, h11'⟩
  show evB CL [I1, I2, I3, I4, I5, I6] _ = _
  rw [evB_nx t1, evB_nx t2, evB_nx t3, evB_nx t4, evB_nx t5, evB_nx t6, x_B0]
theorem outer_ok {sc s2 s3 s4 s5 s6 s7 s8 s9 s10 s11 s12 : Option T} {h0 : T} (k0 : HandOk h0) (h11 : ∀ t, s11 = some t → t.fl = false) :
    ∃ (h' : T) (s3' s4' s5' s6' s7' s8' s9' s10' s11' s12' : Option T), evB CL outer (V sc (some h0) s2 s3 s4 s5 s6 s7 s8 s9 s10 s11 s12) = .nx (V sc (some h') s2 s3' s4' s5' s6' s7' s8' s9' s10' s11' s12') ∧ HandOk h' ∧ ∀ t, s11' = some t → t.fl = false := by
  obtain ⟨d, h1, e1, hd, k1⟩ := callF_draw (f := CL.fs 22) (by rw [cfs (by decide)]; exact f22) (m := 5) (η := V sc (some h0) s2 s3 s4 s5 s6 s7 s8 s9 s10 s11 s12) k0 (by decide) (by decide) 1 rfl
  simp only [V, List.set_cons_zero, List.set_cons_succ] at e1
  obtain ⟨m, hm⟩ : ∃ m, m = 6 + d := ⟨_, rfl⟩
  have hmc : (6 : Int) + (d : Int) = (m : Int) := by omega
  have t1 : evS CL O1 (V sc (some h0) s2 s3 s4 s5 s6 s7 s8 s9 s10 s11 s12) = .nx (V sc (some h1) s2 (some (.int m)) s4 s5 s6 s7 s8 s9 s10 s11 s12) := by
    simp at e1
    simp [O1, V, k0.fl, i22, e1, hmc, clp]
  obtain ⟨x, h2, e2, hx, k2⟩ := call_some (f := CL.fs 23) (by rw [cfs (by decide)]; exact f23) (t := .lst true [.int 1, .int 2, .int 2, .int 3]) (t' := .lst false [.int 1, .int 2, .int 2, .int 3]) (ts := [.int 1, .int 2, .int 2, .int 3]) (η := V sc (some h1) s2 (some (.int m)) s4 s5 s6 s7 s8 s9 s10 s11 s12) k1 (by simp) rfl rfl (by simp) (by simp) (by simp) (by simp) 1 rfl
  obtain ⟨r, rfl, hr1, hr2⟩ : ∃ r : Nat, x = .int r ∧ 1 ≤ r ∧ r ≤ 1000 := by
    simp only [List.mem_cons, List.not_mem_nil, or_false] at hx
    rcases hx with rfl | rfl | rfl | rfl
    · exact ⟨1, rfl, by decide, by decide⟩
    · exact ⟨2, rfl, by decide, by decide⟩
    · exact ⟨2, rfl, by decide, by decide⟩
    · exact ⟨3, rfl, by decide, by decide⟩
  obtain ⟨as, h3, e3, ha, hac, k3⟩ := call_arrows (f := CL.fs 30) (by rw [cfs (by decide)]; exact f30) (m := m) (r := r) (η := V sc (some h2) s2 (some (.int m)) s4 s5 s6 s7 s8 s9 s10 s11 s12) k2 (by omega) (by omega) hr1 hr2 1 rfl
  simp only [V, List.set_cons_zero, List.set_cons_succ] at e2 e3
  have t2 : evS CL O2 (V sc (some h1) s2 (some (.int m)) s4 s5 s6 s7 s8 s9 s10 s11 s12) = .nx (V sc (some h3) s2 (some (.int m)) (some (.tup (as.map Enc.enc))) s5 s6 s7 s8 s9 s10 s11 s12) := by
    simp [O2, V, k1.fl, k2.fl, i23, i30, e2, e3, clp]
  have hm1 : 1 ≤ m := by omega
  have hm2 : m ≤ 10 := by omega
  have hm3 : m ≤ 1000 := by omega
  have hinit : CL.init 0 = some 10 := rfl
  have i10 : CL.io 10 = [true] := rfl
  have hsa : srt as = as := srt_id (ha.asc.imp fun e => le_of_lt e)
  have e10 : CL.fs 10 [.obj true 0 [] [], .int m, .tup (as.map Enc.enc)] = .ok (.non, [some (H true m as)]) := by
    have := f10 m as hm1 hm2 (ha.good hac)
    rw [hsa] at this
    rw [cfs (by decide)]; exact this
  have t3 : evS CL O3 (V sc (some h3) s2 (some (.int m)) (some (.tup (as.map Enc.enc))) s5 s6 s7 s8 s9 s10 s11 s12) = .nx (V sc (some h3) s2 (some (.int m)) (some (.tup (as.map Enc.enc))) (some (H true m as)) s6 s7 s8 s9 s10 s11 s12) := by
    simp [O3, V, hinit, i10, mkF, e10, clp]
  have hlr : bfT .lrg [.int m] = some (.lst true ((List.range m).map Enc.enc)) := by
    simp only [bfT]
    rw [if_pos (by omega)]
    simp only [Int.toNat_natCast]
    rfl
  obtain ⟨row, h4, e4, hperm, k4⟩ := callF_shuf (f := CL.fs 24) (by rw [cfs (by decide)]; exact f24) (l := List.range m) (η := V sc (some h3) s2 (some (.int m)) (some (.tup (as.map Enc.enc))) (some (H true m as)) s6 s7 s8 s9 s10 s11 s12) k3 (by simp; omega) 1 rfl
  simp only [V, List.set_cons_zero, List.set_cons_succ] at e4
  obtain ⟨lot, e5⟩ := f32 as row ha.len fun p hp => by
    obtain ⟨q1, q2, _⟩ := ha.ok p hp
    exact ⟨hperm.mem_iff.mpr (List.mem_range.mpr q1), hperm.mem_iff.mpr (List.mem_range.mpr q2)⟩
  have e5' : CL.fs 32 [.tup (as.map Enc.enc), .lst false (row.map Enc.enc)] = .ok (.tup (lot.map Enc.enc), []) := by rw [cfs (by decide)]; exact e5
  have t4 : evS CL O4 (V sc (some h3) s2 (some (.int m)) (some (.tup (as.map Enc.enc))) (some (H true m as)) s6 s7 s8 s9 s10 s11 s12) = .nx (V sc (some h4) s2 (some (.int m)) (some (.tup (as.map Enc.enc))) (some (H true m as)) (some (.tup (lot.map Enc.enc))) s7 s8 s9 s10 s11 s12) := by
    have e32 : ∀ η, callF (CL.fs 32) [] [.v (.tup (as.map Enc.enc)), .v (.lst false (row.map Enc.enc))] η = .ok (.v (.tup (lot.map Enc.enc)), η) := fun η => by
      unfold callF; simp [e5']
    simp [O4, V, k3.fl, hlr, i24, i32, e4, e32, clp]
  obtain ⟨η', h6, h5, o', s7', s8', s9', s10', s11', s12', rfl, k5, h11'⟩ := for_run (C := CL) (tg := .s 7) (it := .rng [.cst (.int 4)]) (b := inner)
    (η := V sc (some h4) s2 (some (.int m)) (some (.tup (as.map Enc.enc))) (some (H true m as)) (some (.tup (lot.map Enc.enc))) s7 s8 s9 s10 s11 s12) (η1 := V sc (some h4) s2 (some (.int m)) (some (.tup (as.map Enc.enc))) (some (H true m as)) (some (.tup (lot.map Enc.enc))) s7 s8 s9 s10 s11 s12) Enc.enc (List.range 4) (it_rng1 (n := 4) (o := .v (.int 4)) (by simp) (by simp) (by decide)) (by simp [clp])
    (fun i η => ∃ h5 o' s7 s8 s9 s10 s11 s12, η = V sc (some h5) s2 (some (.int m)) (some (.tup (as.map Enc.enc))) (some (H o' m as)) (some (.tup (lot.map Enc.enc))) s7 s8 s9 s10 s11 s12 ∧ HandOk h5 ∧ ∀ t, s11 = some t → t.fl = false) ⟨h4, true, s7, s8, s9, s10, s11, s12, rfl, k4, h11⟩ (by
      rintro i u η hi ⟨h5, o', s7, s8, s9, s10, s11, s12, rfl, k5, h11⟩
      obtain ⟨h6, s8', s9', s10', s11', s12', e, k6, h11'⟩ := inner_ok (sc := sc) (s2 := s2) (s7 := some (.int u)) (s8 := s8) (s9 := s9) (s10 := s10) (s11 := s11) (s12 := s12) (lot := lot) (o := o') k5 hm1 hm3 ha h11
      exact ⟨_, _, by simp [V], .inl e, h6, false, _, s8', s9', s10', s11', s12', rfl, k6, h11'⟩)
  refine ⟨h5, some (.int m), some (.tup (as.map Enc.enc)), some (H o' m as), some (.tup (lot.map Enc.enc)), s7', s8', s9', s10', s11', s12', ?_, k5, h11'⟩
  show evB CL [O1, O2, O3, O4, .for_ (.s 7) (.rng [.cst (.int 4)]) inner] _ = _
  rw [evB_nx t1, evB_nx t2, evB_nx t3, evB_nx t4, evB_nx h6, x_B0]
theorem law_true : ∀ ns : List Int, ns.length ≤ 63 → L.F 38 [.lst false (ns.map T.int)] = .ok (.bl true, []) := fun ns hn => by
  obtain ⟨h, e21, k⟩ := f21 ns hn
  rw [F_eq L (d := d38) rfl]
  have i21 : CL.io 21 = [] := rfl
  have e21' : CL.fs 21 [.lst false (ns.map T.int)] = .ok (h, []) := by rw [cfs (by decide)]; exact e21
  obtain ⟨η', h2, h', s2, s3, s4, s5, s6, s7, s8, s9, s10, s11, s12, rfl, k', _⟩ := for_run (C := CL) (tg := .s 2) (it := .rng [.cst (.int 3)]) (b := outer)
    (η := V (some (.lst false (ns.map T.int))) (some h) none none none none none none none none none none none) (η1 := V (some (.lst false (ns.map T.int))) (some h) none none none none none none none none none none none) Enc.enc (List.range 3)
    (it_rng1 (n := 3) (o := .v (.int 3)) (by simp) (by simp) (by decide)) (by simp [clp])
    (fun i η => ∃ h' s2 s3 s4 s5 s6 s7 s8 s9 s10 s11 s12, η = V (some (.lst false (ns.map T.int))) (some h') s2 s3 s4 s5 s6 s7 s8 s9 s10 s11 s12 ∧ HandOk h' ∧ ∀ t, s11 = some t → t.fl = false) ⟨h, none, none, none, none, none, none, none, none, none, none, none, rfl, k, fun t ht => by cases ht⟩ (by
      rintro i u η hi ⟨h', s2, s3, s4, s5, s6, s7, s8, s9, s10, s11, s12, rfl, k', h11⟩
      obtain ⟨h'', s3', s4', s5', s6', s7', s8', s9', s10', s11', s12', e, k'', h11'⟩ := outer_ok (sc := some (.lst false (ns.map T.int))) (s2 := some (.int u)) (s3 := s3) (s4 := s4) (s5 := s5) (s6 := s6) (s7 := s7) (s8 := s8) (s9 := s9) (s10 := s10) (s11 := s11) (s12 := s12) k' h11
      exact ⟨_, _, by simp [V], .inl e, h'', _, s3', s4', s5', s6', s7', s8', s9', s10', s11', s12', rfl, k'', h11'⟩)
  refine evF_eq (C := CL) (io := []) (n := 15) (b := [.asg false (.s 1) (.call 21 [.slot 0]), .for_ (.s 2) (.rng [.cst (.int 3)]) outer, .ret (.cst (.bl true))]) (η' := V (some (.lst false (ns.map T.int))) (some h') s2 s3 s4 s5 s6 s7 s8 s9 s10 s11 s12) ?_ (outs_nil _)
  have hfz := fzs_intL ns
  have t1 : evS CL (.asg false (.s 1) (.call 21 [.slot 0])) [some (.lst false (ns.map T.int)), none, none, none, none, none, none, none, none, none, none, none, none, none, none] = .nx (V (some (.lst false (ns.map T.int))) (some h) none none none none none none none none none none none) := by
    simp [V, i21, callF, e21', clp]
  show evB CL _ [some (.lst false (ns.map T.int)), none, none, none, none, none, none, none, none, none, none, none, none, none, none] = _
  rw [evB_nx t1, evB_nx h2]
  simp
end TV.K52
/-! what the top has left, the law (printed by gen.py) -/
namespace TV.K52
open PySem L2 TV
def GG (K : PySem.W.Frag) (C0 : Addr) : Par := ⟨K, fun c => if c = 0 then C0 else 0, fun _ => Str.empty, []⟩
section
variable {K : PySem.W.Frag} {mg : Str → Option Value} {h : Heap}
theorem tops_mk (t0 : TopF K mg d0) (t1 : TopF K mg d1) (t2 : TopF K mg d2) (t3 : TopF K mg d3) (t4 : TopF K mg d4) (t5 : TopF K mg d5) (t6 : TopF K mg d6) (t7 : TopF K mg d7) (t8 : TopF K mg d8) (t9 : TopF K mg d9) (t12 : TopF K mg d12) (t13 : TopF K mg d13) (t14 : TopF K mg d14) (t15 : TopF K mg d15) (t16 : TopF K mg d16) (t17 : TopF K mg d17) (t18 : TopF K mg d18) (t19 : TopF K mg d19) (t20 : TopF K mg d20) (t21 : TopF K mg d21) (t22 : TopF K mg d22) (t23 : TopF K mg d23) (t24 : TopF K mg d24) (t25 : TopF K mg d25) (t29 : TopF K mg d29) (t30 : TopF K mg d30) (t31 : TopF K mg d31) (t32 : TopF K mg d32) (t33 : TopF K mg d33) (t34 : TopF K mg d34) (t35 : TopF K mg d35) (t36 : TopF K mg d36) (t37 : TopF K mg d37) (t38 : TopF K mg d38) : TopsF K mg L.ds := ⟨fun _ => t0, ⟨fun _ => t1, ⟨fun _ => t2, ⟨fun _ => t3, ⟨fun _ => t4, ⟨fun _ => t5, ⟨fun _ => t6, ⟨fun _ => t7, ⟨fun _ => t8, ⟨fun _ => t9, ⟨(fun z => by cases z), ⟨(fun z => by cases z), ⟨fun _ => t12, ⟨fun _ => t13, ⟨fun _ => t14, ⟨fun _ => t15, ⟨fun _ => t16, ⟨fun _ => t17, ⟨fun _ => t18, ⟨fun _ => t19, ⟨fun _ => t20, ⟨fun _ => t21, ⟨fun _ => t22, ⟨fun _ => t23, ⟨fun _ => t24, ⟨fun _ => t25, ⟨fun _ => t25, ⟨fun _ => t25, ⟨fun _ => t25, ⟨fun _ => t29, ⟨fun _ => t30, ⟨fun _ => t31, ⟨fun _ => t32, ⟨fun _ => t33, ⟨fun _ => t34, ⟨fun _ => t35, ⟨fun _ => t36, ⟨fun _ => t37, ⟨fun _ => t38, trivial⟩⟩⟩⟩⟩⟩⟩⟩⟩⟩⟩⟩⟩⟩⟩⟩⟩⟩⟩⟩⟩⟩⟩⟩⟩⟩⟩⟩⟩⟩⟩⟩⟩⟩⟩⟩⟩⟩⟩
def blts : List Str := bltNames
theorem blts_mk (z0 : PySem.W.nsIn K mainGlobals "len" = some none) (z1 : PySem.W.nsIn K mainGlobals "sorted" = some none) (z2 : PySem.W.nsIn K mainGlobals "tuple" = some none) (z3 : PySem.W.nsIn K mainGlobals "list" = some none) (z4 : PySem.W.nsIn K mainGlobals "min" = some none) (z5 : PySem.W.nsIn K mainGlobals "sum" = some none) (z6 : PySem.W.nsIn K mainGlobals "all" = some none) (z7 : PySem.W.nsIn K mainGlobals "any" = some none) (z8 : PySem.W.nsIn K mainGlobals "abs" = some none) (z9 : PySem.W.nsIn K mainGlobals "int" = some none) (z10 : PySem.W.nsIn K mainGlobals "range" = some none) (z11 : PySem.W.nsIn K mainGlobals "enumerate" = some none) (z12 : PySem.W.nsIn K mainGlobals "zip" = some none) (z13 : PySem.W.nsIn K mainGlobals "isinstance" = some none) (z14 : PySem.W.nsIn K mainGlobals "bool" = some none) (z15 : PySem.W.nsIn K mainGlobals "dict" = some none) (z16 : PySem.W.nsIn K mainGlobals "str" = some none) : BltF K bltNames := ⟨z0, ⟨z1, ⟨z2, ⟨z3, ⟨z4, ⟨z5, ⟨z6, ⟨z7, ⟨z8, ⟨z9, ⟨z10, ⟨z11, ⟨z12, ⟨z13, ⟨z14, ⟨z15, ⟨z16, trivial⟩⟩⟩⟩⟩⟩⟩⟩⟩⟩⟩⟩⟩⟩⟩⟩⟩
theorem facts (X : K.In h) (NS : h.Ns mainGlobals mg) {C0 : Addr} (t : TopsF K mg L.ds) (bl : BltF K bltNames) (aC0 : PySem.W.nsIn K mainGlobals "Home" = some (some (.ref C0))) (mk0 : PySem.W.makesIn K C0 = true) (kc0 : PySem.W.keepIn K (.ref C0) = true) (ne0 : PySem.W.findIn K (.ref C0) "__ne__" = some (some (.builtin "object.__ne__"))) (ci0 : ClsI K C0) (at0 : AttF K C0 L.fl) (m10 : ∃ f, MetF K C0 d10 f) (m11 : ∃ f, MetF K C0 d11 f)   {v0 : Value} (k0 : PySem.W.nsIn K mainGlobals "MOST_THINGS" = some (some v0)) (r0 : L2.RelV (.int 10) v0) (kb : kitB K (GG K C0) L.cl = true) : Facts K mg (GG K C0) L where
  tops := tops_mem t
  blt := blt_mem X NS bl
  mks := fun x c hx => by
    simp only [L, List.mem_cons, List.not_mem_nil, or_false, Prod.mk.injEq] at hx
    rcases hx with ⟨rfl, rfl⟩
    · refine ⟨PySem.W.mg_of X NS aC0, fun j d hj hd => ?_⟩
      obtain rfl : 10 = j := Option.some.inj hj
      obtain rfl : d10 = d := Option.some.inj hd
      exact ⟨rfl, rfl, mk0, kc0, m10⟩
  kcs := fun x t hx => by
    simp only [L, List.mem_cons, List.not_mem_nil, or_false, Prod.mk.injEq] at hx
    rcases hx with ⟨rfl, rfl⟩
    · exact ⟨rfl, _, v0, PySem.W.mg_of X NS k0, r0, fun F => by simp [View]⟩
  clI := fun c hc => by
    simp only [L, List.contains_cons, List.contains_nil, Bool.or_false, Bool.or_eq_true, beq_iff_eq] at hc
    rcases hc with rfl
    · exact ci0
  kit := kit_of kb
  att := fun c f hc hf => by
    simp only [L, List.contains_cons, List.contains_nil, Bool.or_false, Bool.or_eq_true, beq_iff_eq] at hc
    rcases hc with rfl
    · exact att_mem at0 f hf
  eqs := fun p c hx => by simp [L] at hx
theorem all_mk {P : Program} {w : World} (X : K.In h) (NS : h.Ns mainGlobals mg) {C0 : Addr} (aC0 : PySem.W.nsIn K mainGlobals "Home" = some (some (.ref C0))) (mk0 : PySem.W.makesIn K C0 = true) (kc0 : PySem.W.keepIn K (.ref C0) = true) (ne0 : PySem.W.findIn K (.ref C0) "__ne__" = some (some (.builtin "object.__ne__"))) (ci0 : ClsI K C0) (at0 : AttF K C0 L.fl) (m10 : ∃ f, MetF K C0 d10 f) (m11 : ∃ f, MetF K C0 d11 f)   {v0 : Value} (k0 : PySem.W.nsIn K mainGlobals "MOST_THINGS" = some (some v0)) (r0 : L2.RelV (.int 10) v0) (kb : kitB K (GG K C0) L.cl = true) {fa : Addr} (hmg : mg "law" = some (.ref fa)) (hK : noLst K = true) (hm : ∀ ns : List Int, ns.length ≤ 63 → L.F 38 [.lst false (ns.map T.int)] = .ok (.bl true, [])) (t0 : TopF K mg d0) (t1 : TopF K mg d1) (t2 : TopF K mg d2) (t3 : TopF K mg d3) (t4 : TopF K mg d4) (t5 : TopF K mg d5) (t6 : TopF K mg d6) (t7 : TopF K mg d7) (t8 : TopF K mg d8) (t9 : TopF K mg d9) (t12 : TopF K mg d12) (t13 : TopF K mg d13) (t14 : TopF K mg d14) (t15 : TopF K mg d15) (t16 : TopF K mg d16) (t17 : TopF K mg d17) (t18 : TopF K mg d18) (t19 : TopF K mg d19) (t20 : TopF K mg d20) (t21 : TopF K mg d21) (t22 : TopF K mg d22) (t23 : TopF K mg d23) (t24 : TopF K mg d24) (t25 : TopF K mg d25) (t29 : TopF K mg d29) (t30 : TopF K mg d30) (t31 : TopF K mg d31) (t32 : TopF K mg d32) (t33 : TopF K mg d33) (t34 : TopF K mg d34) (t35 : TopF K mg d35) (t36 : TopF K mg d36) (t37 : TopF K mg d37) (t38 : TopF K mg d38) (z0 : PySem.W.nsIn K mainGlobals "len" = some none) (z1 : PySem.W.nsIn K mainGlobals "sorted" = some none) (z2 : PySem.W.nsIn K mainGlobals "tuple" = some none) (z3 : PySem.W.nsIn K mainGlobals "list" = some none) (z4 : PySem.W.nsIn K mainGlobals "min" = some none) (z5 : PySem.W.nsIn K mainGlobals "sum" = some none) (z6 : PySem.W.nsIn K mainGlobals "all" = some none) (z7 : PySem.W.nsIn K mainGlobals "any" = some none) (z8 : PySem.W.nsIn K mainGlobals "abs" = some none) (z9 : PySem.W.nsIn K mainGlobals "int" = some none) (z10 : PySem.W.nsIn K mainGlobals "range" = some none) (z11 : PySem.W.nsIn K mainGlobals "enumerate" = some none) (z12 : PySem.W.nsIn K mainGlobals "zip" = some none) (z13 : PySem.W.nsIn K mainGlobals "isinstance" = some none) (z14 : PySem.W.nsIn K mainGlobals "bool" = some none) (z15 : PySem.W.nsIn K mainGlobals "dict" = some none) (z16 : PySem.W.nsIn K mainGlobals "str" = some none) :
    ∃ fd : FuncData, (∀ (s : Shared) (u : Value), BindsTo s fd ⟨[u], []⟩ [("_law_script", u)]) ∧ ∀ base : Heap, K.In base → base.Ns mainGlobals mg → FnOk P w K mg base (L2.CX P w) 78 fa fd ["_law_script"] (spL K) :=
  law_end (base := h) stas (facts X NS (tops_mk t0 t1 t2 t3 t4 t5 t6 t7 t8 t9 t12 t13 t14 t15 t16 t17 t18 t19 t20 t21 t22 t23 t24 t25 t29 t30 t31 t32 t33 t34 t35 t36 t37 t38) (blts_mk z0 z1 z2 z3 z4 z5 z6 z7 z8 z9 z10 z11 z12 z13 z14 z15 z16) aC0 mk0 kc0 ne0 ci0 at0 m10 m11 k0 r0 kb) (i := 38) (d := d38) rfl rfl rfl rfl hmg hK hm
end
end TV.K52
open PySem PySem.W PyProof.Rows
set_option maxHeartbeats 0 in
theorem TV.K52.cw : PySem.Challenge.rw_turnedapart_k52_whole_sure_ties_of_great.Holds := by
  w_on; o_law; k_head; (case hw => w_witness2)
  k_fill
  refine L2.walk_of (l := PySem.Challenge.rw_turnedapart_k52_whole_sure_ties_of_great) (n := 63) (k := 78) (x := "_law_script") (CX := fun w => L2.CX PySem.Challenge.pw_turnedapart_k52_whole_sure_ties_of_great w) (sp := fun w => TV.spL _) rfl (by decide) rfl ⟨rfl, by decide, by decide⟩ (fun w h Y => PySem.W.kIn_of Y) ?F (fun _ _ a ns hl _ hS => ⟨a, ns, rfl, hS, hl, fun _ => rfl⟩) (fun _ _ _ _ _ h => TV.cx_no h)
  case F =>
    intro w mg fa h KX G hmg
    refine' TV.K52.all_mk KX G ?aC0 ?mk0 ?kc0 ?ne0 ?ci0 ?at0 ?m10 ?m11 ?k0 ?r0 ?kb hmg ?hK TV.K52.law_true ?t0 ?t1 ?t2 ?t3 ?t4 ?t5 ?t6 ?t7 ?t8 ?t9 ?t12 ?t13 ?t14 ?t15 ?t16 ?t17 ?t18 ?t19 ?t20 ?t21 ?t22 ?t23 ?t24 ?t25 ?t29 ?t30 ?t31 ?t32 ?t33 ?t34 ?t35 ?t36 ?t37 ?t38 ?z0 ?z1 ?z2 ?z3 ?z4 ?z5 ?z6 ?z7 ?z8 ?z9 ?z10 ?z11 ?z12 ?z13 ?z14 ?z15 ?z16
    (case aC0 => k_is); (case mk0 => k_is); (case kc0 => k_is); (case ne0 => k_is)
    (case ci0 => refine' TV.clsI_mk ?q1 ?q2 ?q3 ?q4 ?q5 ?q6 ?q7 ?q8; (case q1 => k_is); (case q2 => k_is); (case q3 => k_is); (case q4 => k_is); (case q5 => k_is); (case q6 => k_is); (case q7 => k_is); (case q8 => k_is))
    (case at0 => refine' ⟨?u0, ?u1, trivial⟩; (case u0 => k_is); (case u1 => k_is))
    (case m10 => refine' TV.metF_mk (x := "__init__") (q := "Home.__init__") rfl rfl ?a ?i ?l ?c ?k; (case a => k_is); (case i => k_is); (case l => k_is); (case c => k_is); (case k => k_is))
    (case m11 => refine' TV.metF_mk (x := "__eq__") (q := "Home.__eq__") rfl rfl ?a ?i ?l ?c ?k; (case a => k_is); (case i => k_is); (case l => k_is); (case c => k_is); (case k => k_is))
    (case k0 => k_is); (case r0 => exact ⟨_, rfl⟩)
    (case t0 => refine' TV.topF_mk (x := "is_integer") (q := "is_integer") KX G rfl rfl ?a ?l ?c ?k; (case a => k_is); (case l => k_is); (case c => k_is); (case k => k_is))
    (case t1 => refine' TV.topF_mk (x := "is_between") (q := "is_between") KX G rfl rfl ?a ?l ?c ?k; (case a => k_is); (case l => k_is); (case c => k_is); (case k => k_is))
    (case t2 => refine' TV.topF_mk (x := "is_index") (q := "is_index") KX G rfl rfl ?a ?l ?c ?k; (case a => k_is); (case l => k_is); (case c => k_is); (case k => k_is))
    (case t3 => refine' TV.topF_mk (x := "is_tuple_of") (q := "is_tuple_of") KX G rfl rfl ?a ?l ?c ?k; (case a => k_is); (case l => k_is); (case c => k_is); (case k => k_is))
    (case t4 => refine' TV.topF_mk (x := "is_pair") (q := "is_pair") KX G rfl rfl ?a ?l ?c ?k; (case a => k_is); (case l => k_is); (case c => k_is); (case k => k_is))
    (case t5 => refine' TV.topF_mk (x := "are_ascending") (q := "are_ascending") KX G rfl rfl ?a ?l ?c ?k; (case a => k_is); (case l => k_is); (case c => k_is); (case k => k_is))
    (case t6 => refine' TV.topF_mk (x := "are_arrows") (q := "are_arrows") KX G rfl rfl ?a ?l ?c ?k; (case a => k_is); (case l => k_is); (case c => k_is); (case k => k_is))
    (case t7 => refine' TV.topF_mk (x := "next_things") (q := "next_things") KX G rfl rfl ?a ?l ?c ?k; (case a => k_is); (case l => k_is); (case c => k_is); (case k => k_is))
    (case t8 => refine' TV.topF_mk (x := "shortest_way") (q := "shortest_way") KX G rfl rfl ?a ?l ?c ?k; (case a => k_is); (case l => k_is); (case c => k_is); (case k => k_is))
    (case t9 => refine' TV.topF_mk (x := "shortest_ring") (q := "shortest_ring") KX G rfl rfl ?a ?l ?c ?k; (case a => k_is); (case l => k_is); (case c => k_is); (case k => k_is))
    (case t12 => refine' TV.topF_mk (x := "reached") (q := "reached") KX G rfl rfl ?a ?l ?c ?k; (case a => k_is); (case l => k_is); (case c => k_is); (case k => k_is))
    (case t13 => refine' TV.topF_mk (x := "first_order") (q := "first_order") KX G rfl rfl ?a ?l ?c ?k; (case a => k_is); (case l => k_is); (case c => k_is); (case k => k_is))
    (case t14 => refine' TV.topF_mk (x := "is_lot") (q := "is_lot") KX G rfl rfl ?a ?l ?c ?k; (case a => k_is); (case l => k_is); (case c => k_is); (case k => k_is))
    (case t15 => refine' TV.topF_mk (x := "is_look") (q := "is_look") KX G rfl rfl ?a ?l ?c ?k; (case a => k_is); (case l => k_is); (case c => k_is); (case k => k_is))
    (case t16 => refine' TV.topF_mk (x := "is_seen") (q := "is_seen") KX G rfl rfl ?a ?l ?c ?k; (case a => k_is); (case l => k_is); (case c => k_is); (case k => k_is))
    (case t17 => refine' TV.topF_mk (x := "check_seen") (q := "check_seen") KX G rfl rfl ?a ?l ?c ?k; (case a => k_is); (case l => k_is); (case c => k_is); (case k => k_is))
    (case t18 => refine' TV.topF_mk (x := "seen_pairs") (q := "seen_pairs") KX G rfl rfl ?a ?l ?c ?k; (case a => k_is); (case l => k_is); (case c => k_is); (case k => k_is))
    (case t19 => refine' TV.topF_mk (x := "raw_sure") (q := "raw_sure") KX G rfl rfl ?a ?l ?c ?k; (case a => k_is); (case l => k_is); (case c => k_is); (case k => k_is))
    (case t20 => refine' TV.topF_mk (x := "sure") (q := "sure") KX G rfl rfl ?a ?l ?c ?k; (case a => k_is); (case l => k_is); (case c => k_is); (case k => k_is))
    (case t21 => refine' TV.topF_mk (x := "_law_hand") (q := "_law_hand") KX G rfl rfl ?a ?l ?c ?k; (case a => k_is); (case l => k_is); (case c => k_is); (case k => k_is))
    (case t22 => refine' TV.topF_mk (x := "_law_draw") (q := "_law_draw") KX G rfl rfl ?a ?l ?c ?k; (case a => k_is); (case l => k_is); (case c => k_is); (case k => k_is))
    (case t23 => refine' TV.topF_mk (x := "_law_some") (q := "_law_some") KX G rfl rfl ?a ?l ?c ?k; (case a => k_is); (case l => k_is); (case c => k_is); (case k => k_is))
    (case t24 => refine' TV.topF_mk (x := "_law_shuffled") (q := "_law_shuffled") KX G rfl rfl ?a ?l ?c ?k; (case a => k_is); (case l => k_is); (case c => k_is); (case k => k_is))
    (case t25 => refine' TV.topF_mk (x := "_law_is") (q := "_law_is") KX G rfl rfl ?a ?l ?c ?k; (case a => k_is); (case l => k_is); (case c => k_is); (case k => k_is))
    (case t29 => refine' TV.topF_mk (x := "_law_flag") (q := "_law_flag") KX G rfl rfl ?a ?l ?c ?k; (case a => k_is); (case l => k_is); (case c => k_is); (case k => k_is))
    (case t30 => refine' TV.topF_mk (x := "_law_arrows") (q := "_law_arrows") KX G rfl rfl ?a ?l ?c ?k; (case a => k_is); (case l => k_is); (case c => k_is); (case k => k_is))
    (case t31 => refine' TV.topF_mk (x := "_law_has_ring") (q := "_law_has_ring") KX G rfl rfl ?a ?l ?c ?k; (case a => k_is); (case l => k_is); (case c => k_is); (case k => k_is))
    (case t32 => refine' TV.topF_mk (x := "_law_from_order") (q := "_law_from_order") KX G rfl rfl ?a ?l ?c ?k; (case a => k_is); (case l => k_is); (case c => k_is); (case k => k_is))
    (case t33 => refine' TV.topF_mk (x := "_law_reached") (q := "_law_reached") KX G rfl rfl ?a ?l ?c ?k; (case a => k_is); (case l => k_is); (case c => k_is); (case k => k_is))
    (case t34 => refine' TV.topF_mk (x := "_law_seen") (q := "_law_seen") KX G rfl rfl ?a ?l ?c ?k; (case a => k_is); (case l => k_is); (case c => k_is); (case k => k_is))
    (case t35 => refine' TV.topF_mk (x := "_law_seen_pairs") (q := "_law_seen_pairs") KX G rfl rfl ?a ?l ?c ?k; (case a => k_is); (case l => k_is); (case c => k_is); (case k => k_is))
    (case t36 => refine' TV.topF_mk (x := "_law_sure_by_ways") (q := "_law_sure_by_ways") KX G rfl rfl ?a ?l ?c ?k; (case a => k_is); (case l => k_is); (case c => k_is); (case k => k_is))
    (case t37 => refine' TV.topF_mk (x := "_law_with") (q := "_law_with") KX G rfl rfl ?a ?l ?c ?k; (case a => k_is); (case l => k_is); (case c => k_is); (case k => k_is))
    (case t38 => refine' TV.topF_mk (x := "law") (q := "law") KX G rfl rfl ?a ?l ?c ?k; (case a => k_is); (case l => k_is); (case c => k_is); (case k => k_is))
    (case z0 => k_is); (case z1 => k_is); (case z2 => k_is); (case z3 => k_is); (case z4 => k_is); (case z5 => k_is); (case z6 => k_is); (case z7 => k_is); (case z8 => k_is); (case z9 => k_is); (case z10 => k_is); (case z11 => k_is); (case z12 => k_is); (case z13 => k_is); (case z14 => k_is); (case z15 => k_is); (case z16 => k_is)
    (case kb => kernel_rfl)
    (case hK => kernel_rfl)
theorem PySem.Challenge.cw_turnedapart_k52_whole_sure_ties_of_great_holds : PySem.Challenge.rw_turnedapart_k52_whole_sure_ties_of_great.Holds :=
  TV.K52.cw
