import PyProof.Rows.All
import Wide.All
import OpenK.AllK
import Wide.FinOn
import HandS.ForMost
import HandS.ForExc
import HandS.IsInst
import HandS.Wide
import HandS.Style
import HandS.SortInts
import HandS.SortRule
import HandS.HeadHook2
import HandS.Defaults
import KE.KStateDown
import HandS.Head0
import HandS.Head1
import HandS.Head2
import HandS.HeadEnd
import HandS.HeadHook1
import HandS.Conv
import HandS.ExcOwn
import HandS.ExcInit
import HandS.ExcIs
import HandS.ExcField
import HandS.TryOnly
import KE.KExcIs
import HandS.SetFor
import HandS.Iter
import HandS.Dict
import PyProof.ReprRoads
import HandS.DeepEq
import PyProof.NeData
import PySem.Challenge.RW_treeasks_k23_what_are_prices
set_option Elab.async false
set_option linter.all false
set_option maxRecDepth 100000
set_option maxHeartbeats 4000000
namespace DL
open PySem PySem.Spec L2
open PyProof.Rows hiding St
inductive D where
  | non | bl (b : Bool) | int (i : Int) | str (s : Str) | tup (xs : List D) | lst (xs : List D) | dct (ks : List Key) (xs : List D) | scr (ns : List Int) | exn (c : Str) (ns : List Str) (xs : List D)
abbrev As := List Addr
def KL (K : PySem.W.Frag) (a : Addr) (xs : List V) : Prop :=
  ∃ (o : Obj) (its : Array Value) (n : Nat), K.lookup a = some o ∧ o.cls = .type "list" ∧ o.dict = none ∧ o.data = .seq its n ∧ its.size ≤ sizeLine ∧ Vals xs its.toList
def ScrAt (K : PySem.W.Frag) (H : Hp) (a : Addr) (xs : List V) : Prop := (∃ o, H a = some (.frz o (.lst xs))) ∨ KL K a xs
theorem ScrAt.sq {K : PySem.W.Frag} {H : Hp} {a : Addr} {xs : List V} (h : ScrAt K H a xs) : SqL K H a xs := by
  rcases h with ⟨o, h⟩ | h
  · exact .inl (.inr ⟨o, h⟩)
  · exact .inr h
def FzL (H : Hp) (N : As) (a : Addr) (vs : List V) : Prop := H a = some (.lst vs) ∧ a ∉ N
def TpA (K : PySem.W.Frag) (H : Hp) : Nat → Addr → List V → Prop
  | 0, a, vs => SqT K H a vs
  | _ + 1, a, vs => H a = some (.tup vs)
theorem TpA.of {K : PySem.W.Frag} {H : Hp} {a : Addr} {vs : List V} (h : H a = some (.tup vs)) : ∀ m, TpA K H m a vs
  | 0 => SqT.of h
  | _ + 1 => h
theorem TpA.sq {K : PySem.W.Frag} {H : Hp} {a : Addr} {vs : List V} : ∀ {m}, TpA K H m a vs → SqT K H a vs
  | 0, h => h
  | _ + 1, h => SqT.of h
theorem TpA.low {K : PySem.W.Frag} {H : Hp} {a : Addr} {vs : List V} : ∀ {m k}, k ≤ m → TpA K H m a vs → TpA K H k a vs
  | 0, 0, _, h => h
  | _ + 1, 0, _, h => SqT.of h
  | _ + 1, _ + 1, _, h => h
def FzD (H : Hp) (N : As) (a : Addr) (kvs : List (Key × V)) : Prop := H a = some (.dK kvs) ∧ a ∉ N
def EcO (cls : Value) (d : Option Addr) (a : Addr) : HO := .ext fun h => ∃ (oe : Obj) (vs : Array Value), h.get? a = some oe ∧ Zc cls d oe ∧ oe.data = .fields vs
theorem ecO_ok {P : Program} {w : World} {H : Hp} {h : Heap} {a : Addr} {cls : Value} {d : Option Addr} {oe : Obj} {vs : Array Value} (e : h.get? a = some oe) (z : Zc cls d oe) (y : oe.data = .fields vs) : ObjOk P w H h a (EcO cls d a) :=
  ⟨⟨oe, vs, e, z, y⟩, ⟨oe, e⟩, fun _ _ ⟨o, v, q, r⟩ k => ⟨o, v, k o q, r⟩⟩
mutual
def Rp (K : PySem.W.Frag) (H : Hp) (N : As) : Nat → D → V → As → Prop
  | _, .non, v, l => v = .non ∧ l = []
  | _, .bl b, v, l => v = .bl b ∧ l = []
  | _, .int i, v, l => v = .int i ∧ l = []
  | _, .str s, v, l => v = .str s ∧ l = []
  | _, .scr ns, v, l => ∃ a, v = .ref a ∧ ScrAt K H a (ns.map V.int) ∧ l = []
  | _, .exn c ns ds, v, l => ∃ a d, v = .ref a ∧ H a = some (EcO (.ref (He.ga K c)) d a) ∧ l = [] ∧ ((ns = [] ∧ ds = [] ∧ d = none) ∨ ∃ dx vs, d = some dx ∧ H dx = some (.xd (ns.zip vs)) ∧ ns.length = vs.length ∧ Rps K H N 0 ds vs [])
  | m, .tup ds, v, l => ∃ a vs, v = .ref a ∧ TpA K H m a vs ∧ Rps K H N m ds vs l
  | 0, .lst ds, v, l => ∃ a vs, v = .ref a ∧ FzL H N a vs ∧ l = [] ∧ Rps K H N 0 ds vs []
  | m + 1, .lst ds, v, l => ∃ a vs l', v = .ref a ∧ H a = some (.lst vs) ∧ l = a :: l' ∧ Rps K H N m ds vs l'
  | 0, .dct ks ds, v, l => ∃ a vs, v = .ref a ∧ ks.length = vs.length ∧ FzD H N a (ks.zip vs) ∧ l = [] ∧ Rps K H N 0 ds vs []
  | m + 1, .dct ks ds, v, l => ∃ a vs l', v = .ref a ∧ ks.length = vs.length ∧ H a = some (.dK (ks.zip vs)) ∧ l = a :: l' ∧ Rps K H N m ds vs l'
def Rps (K : PySem.W.Frag) (H : Hp) (N : As) : Nat → List D → List V → As → Prop
  | _, [], vs, l => vs = [] ∧ l = []
  | m, d :: ds, vs, l => ∃ v vr l1 l2, vs = v :: vr ∧ l = l1 ++ l2 ∧ Rp K H N m d v l1 ∧ Rps K H N m ds vr l2
end
section
variable {K : PySem.W.Frag} {H H' : Hp} {N N' : As}
mutual
theorem Rp.zero : ∀ {d : D} {v : V} {l : As}, Rp K H N 0 d v l → l = []
  | .non, _, _, h => by simp only [Rp] at h; exact h.2
  | .bl _, _, _, h => by simp only [Rp] at h; exact h.2
  | .int _, _, _, h => by simp only [Rp] at h; exact h.2
  | .str _, _, _, h => by simp only [Rp] at h; exact h.2
  | .scr _, _, _, h => by simp only [Rp] at h; obtain ⟨_, _, _, e⟩ := h; exact e
  | .exn _ _ _, _, _, h => by simp only [Rp] at h; obtain ⟨_, _, _, _, e, _⟩ := h; exact e
  | .tup ds, _, _, h => by
    simp only [Rp] at h; obtain ⟨a, vs, _, _, r⟩ := h; exact Rps.zero r
  | .lst ds, _, _, h => by simp only [Rp] at h; obtain ⟨a, vs, _, _, e, _⟩ := h; exact e
  | .dct ks ds, _, _, h => by simp only [Rp] at h; obtain ⟨a, vs, _, _, _, e, _⟩ := h; exact e
theorem Rps.zero : ∀ {ds : List D} {vs : List V} {l : As}, Rps K H N 0 ds vs l → l = []
  | [], _, _, h => by simp only [Rps] at h; exact h.2
  | d :: ds, _, _, h => by
    simp only [Rps] at h; obtain ⟨v, vr, l1, l2, _, e, r1, r2⟩ := h
    rw [e, Rp.zero r1, Rps.zero r2]; rfl
end
def IsOwn (H : Hp) (a : Addr) : Prop := (∃ xs, H a = some (.lst xs)) ∨ ∃ kvs, H a = some (.dK kvs)
theorem IsOwn.ne {a : Addr} (h : IsOwn H a) : H a ≠ none := by
  rcases h with ⟨_, e⟩ | ⟨_, e⟩ <;> rw [e] <;> exact fun z => by cases z
mutual
theorem Rp.own : ∀ {m : Nat} {d : D} {v : V} {l : As}, Rp K H N m d v l → ∀ a ∈ l, IsOwn H a
  | _, .non, _, _, h, _, hx => by simp only [Rp] at h; rw [h.2] at hx; cases hx
  | _, .bl _, _, _, h, _, hx => by simp only [Rp] at h; rw [h.2] at hx; cases hx
  | _, .int _, _, _, h, _, hx => by simp only [Rp] at h; rw [h.2] at hx; cases hx
  | _, .str _, _, _, h, _, hx => by simp only [Rp] at h; rw [h.2] at hx; cases hx
  | _, .scr _, _, _, h, _, hx => by simp only [Rp] at h; obtain ⟨_, _, _, e⟩ := h; rw [e] at hx; cases hx
  | _, .exn _ _ _, _, _, h, _, hx => by simp only [Rp] at h; obtain ⟨_, _, _, _, e, _⟩ := h; rw [e] at hx; cases hx
  | m, .tup ds, _, _, h, x, hx => by
    simp only [Rp] at h; obtain ⟨a, vs, _, _, r⟩ := h; exact Rps.own r x hx
  | 0, .lst ds, _, _, h, x, hx => by rw [Rp.zero h] at hx; cases hx
  | m + 1, .lst ds, _, _, h, x, hx => by
    simp only [Rp] at h; obtain ⟨a, vs, l', _, e, el, r⟩ := h
    rw [el] at hx
    rcases List.mem_cons.mp hx with hx | hx
    · subst hx; exact .inl ⟨_, e⟩
    · exact Rps.own r x hx
  | 0, .dct ks ds, _, _, h, x, hx => by rw [Rp.zero h] at hx; cases hx
  | m + 1, .dct ks ds, _, _, h, x, hx => by
    simp only [Rp] at h; obtain ⟨a, vs, l', _, _, e, el, r⟩ := h
    rw [el] at hx
    rcases List.mem_cons.mp hx with hx | hx
    · subst hx; exact .inr ⟨_, e⟩
    · exact Rps.own r x hx
theorem Rps.own : ∀ {m : Nat} {ds : List D} {vs : List V} {l : As}, Rps K H N m ds vs l → ∀ a ∈ l, IsOwn H a
  | _, [], _, _, h, _, hx => by simp only [Rps] at h; rw [h.2] at hx; cases hx
  | m, d :: ds, _, _, h, x, hx => by
    simp only [Rps] at h; obtain ⟨v, vr, l1, l2, _, e, r1, r2⟩ := h
    rw [e] at hx
    rcases List.mem_append.mp hx with hx | hx
    · exact Rp.own r1 x hx
    · exact Rps.own r2 x hx
end
structure Kp (H H' : Hp) (L : As) : Prop where
  kp : ∀ a o, H a = some o → a ∉ L → H' a = some o
  ow : ∀ a ∈ L, IsOwn H a
theorem Kp.rd (k : Kp H H' L) {a : Addr} {u : HO} (h : Rd H a u) (n : a ∉ L) : Rd H' a u := by
  rcases h with h | ⟨o, h⟩
  · exact .inl (k.kp _ _ h n)
  · exact .inr ⟨o, k.kp _ _ h n⟩
theorem Rd.ne {a : Addr} {u : HO} (h : Rd H a u) : H a ≠ none := by
  rcases h with h | ⟨o, h⟩ <;> rw [h] <;> exact fun z => by cases z
theorem IsOwn.ntup {a : Addr} {xs : List V} (h : IsOwn H a) (r : Rd H a (.tup xs)) : False := by
  rcases h with ⟨_, e⟩ | ⟨_, e⟩ <;> rcases r with r | ⟨o, r⟩ <;> rw [e] at r <;> cases r
theorem Kp.sqT (k : Kp H H' L) {a : Addr} {vs : List V} (h : SqT K H a vs) : SqT K H' a vs := by
  rcases h with h | h
  · exact .inl (k.rd h fun z => (k.ow a z).ntup h)
  · exact .inr h
theorem Kp.tpA (k : Kp H H' L) {a : Addr} {vs : List V} : ∀ {m}, TpA K H m a vs → TpA K H' m a vs
  | 0, h => k.sqT h
  | _ + 1, h => k.kp _ _ h fun z => (k.ow a z).ntup (.inl h)
theorem Kp.scr (k : Kp H H' L) {a : Addr} {vs : List V} (h : ScrAt K H a vs) : ScrAt K H' a vs := by
  rcases h with ⟨o, s⟩ | h
  · refine .inl ⟨o, k.kp _ _ s fun z => ?_⟩
    rcases k.ow a z with ⟨_, q⟩ | ⟨_, q⟩ <;> rw [s] at q <;> cases q
  · exact .inr h
abbrev Nw (H : Hp) (N N' : As) : Prop := ∀ a ∈ N', a ∈ N ∨ H a = none
theorem Kp.fzL (k : Kp H H' L) (hL : ∀ a ∈ L, a ∈ N) (w : Nw H N N') {a : Addr} {vs : List V} (h : FzL H N a vs) : FzL H' N' a vs := by
  obtain ⟨h, n⟩ := h
  refine ⟨k.kp _ _ h fun z => n (hL a z), fun z => ?_⟩
  rcases w a z with q | q
  · exact n q
  · rw [h] at q; cases q
theorem Kp.fzD (k : Kp H H' L) (hL : ∀ a ∈ L, a ∈ N) (w : Nw H N N') {a : Addr} {kvs : List (Key × V)} (h : FzD H N a kvs) : FzD H' N' a kvs := by
  obtain ⟨h, n⟩ := h
  refine ⟨k.kp _ _ h fun z => n (hL a z), fun z => ?_⟩
  rcases w a z with q | q
  · exact n q
  · rw [h] at q; cases q
mutual
theorem Rp.step {L : As} (k : Kp H H' L) (hL : ∀ a ∈ L, a ∈ N) (w : Nw H N N') : ∀ {m : Nat} {d : D} {v : V} {l : As}, Rp K H N m d v l → (∀ a ∈ l, a ∉ L) → Rp K H' N' m d v l
  | _, .non, _, _, h, _ => by simpa only [Rp] using h
  | _, .bl _, _, _, h, _ => by simpa only [Rp] using h
  | _, .int _, _, _, h, _ => by simpa only [Rp] using h
  | _, .str _, _, _, h, _ => by simpa only [Rp] using h
  | _, .scr _, _, _, h, _ => by
    simp only [Rp] at h ⊢; obtain ⟨a, e, s, el⟩ := h
    exact ⟨a, e, k.scr s, el⟩
  | _, .exn c ns ds, _, _, h, _ => by
    simp only [Rp] at h ⊢; obtain ⟨a, d, e, s, el, q⟩ := h
    refine ⟨a, d, e, k.kp _ _ s fun z => ?_, el, ?_⟩
    · rcases k.ow a z with ⟨_, q⟩ | ⟨_, q⟩ <;> rw [s] at q <;> cases q
    · rcases q with q | ⟨dx, vs, e1, e2, e3, r⟩
      · exact .inl q
      · refine .inr ⟨dx, vs, e1, k.kp _ _ e2 fun z => ?_, e3, Rps.step k hL w r fun x hx => by cases hx⟩
        rcases k.ow dx z with ⟨_, q⟩ | ⟨_, q⟩ <;> rw [e2] at q <;> cases q
  | m, .tup ds, _, _, h, n => by
    simp only [Rp] at h ⊢; obtain ⟨a, vs, e, s, r⟩ := h; exact ⟨a, vs, e, k.tpA s, Rps.step k hL w r n⟩
  | 0, .lst ds, _, _, h, n => by
    simp only [Rp] at h ⊢; obtain ⟨a, vs, e, s, el, r⟩ := h
    exact ⟨a, vs, e, k.fzL hL w s, el, Rps.step k hL w r fun x hx => by cases hx⟩
  | m + 1, .lst ds, _, _, h, n => by
    simp only [Rp] at h ⊢; obtain ⟨a, vs, l', e, s, el, r⟩ := h
    subst el
    exact ⟨a, vs, l', e, k.kp _ _ s (n a List.mem_cons_self), rfl, Rps.step k hL w r fun x hx => n x (List.mem_cons_of_mem _ hx)⟩
  | 0, .dct ks ds, _, _, h, n => by
    simp only [Rp] at h ⊢; obtain ⟨a, vs, e, z, s, el, r⟩ := h
    exact ⟨a, vs, e, z, k.fzD hL w s, el, Rps.step k hL w r fun x hx => by cases hx⟩
  | m + 1, .dct ks ds, _, _, h, n => by
    simp only [Rp] at h ⊢; obtain ⟨a, vs, l', e, z, s, el, r⟩ := h
    subst el
    exact ⟨a, vs, l', e, z, k.kp _ _ s (n a List.mem_cons_self), rfl, Rps.step k hL w r fun x hx => n x (List.mem_cons_of_mem _ hx)⟩
theorem Rps.step {L : As} (k : Kp H H' L) (hL : ∀ a ∈ L, a ∈ N) (w : Nw H N N') : ∀ {m : Nat} {ds : List D} {vs : List V} {l : As}, Rps K H N m ds vs l → (∀ a ∈ l, a ∉ L) → Rps K H' N' m ds vs l
  | _, [], _, _, h, _ => by simpa only [Rps] using h
  | m, d :: ds, _, _, h, n => by
    simp only [Rps] at h ⊢; obtain ⟨v, vr, l1, l2, e, el, r1, r2⟩ := h
    subst el
    exact ⟨v, vr, l1, l2, e, rfl, Rp.step k hL w r1 fun x hx => n x (List.mem_append_left _ hx), Rps.step k hL w r2 fun x hx => n x (List.mem_append_right _ hx)⟩
end
theorem Kp.refl : Kp H H [] := ⟨fun _ _ h _ => h, fun _ h => by cases h⟩
theorem Rp.sub {m : Nat} {d : D} {v : V} {l : As} (h : Rp K H N m d v l) (s : ∀ a ∈ N', a ∈ N) : Rp K H N' m d v l :=
  h.step Kp.refl (fun _ z => by cases z) (fun a q => .inl (s a q)) fun _ _ z => by cases z
theorem Rps.sub {m : Nat} {ds : List D} {vs : List V} {l : As} (h : Rps K H N m ds vs l) (s : ∀ a ∈ N', a ∈ N) : Rps K H N' m ds vs l :=
  h.step Kp.refl (fun _ z => by cases z) (fun a q => .inl (s a q)) fun _ _ z => by cases z
theorem Rps.len : ∀ {m : Nat} {ds : List D} {vs : List V} {l : As}, Rps K H N m ds vs l → ds.length = vs.length
  | _, [], _, _, h => by simp only [Rps] at h; rw [h.1]; rfl
  | m, d :: ds, _, _, h => by
    simp only [Rps] at h; obtain ⟨v, vr, l1, l2, e, el, r1, r2⟩ := h
    rw [e]; simp [Rps.len r2]
theorem fz_of {a : Addr} {vs : List V} (h : H a = some (.lst vs)) (n : a ∉ N) : FzL H N a vs := ⟨h, n⟩
mutual
theorem Rp.low : ∀ {m : Nat} (k : Nat) {d : D} {v : V} {l : As}, k ≤ m → Rp K H N m d v l → (∀ a ∈ l, a ∉ N') → (∀ a ∈ N', a ∈ N) → ∃ l', (l').Sublist l ∧ Rp K H N' k d v l'
  | _, _, .non, _, _, _, h, _, _ => by simp only [Rp] at h ⊢; exact ⟨[], List.nil_sublist _, h.1, rfl⟩
  | _, _, .bl _, _, _, _, h, _, _ => by simp only [Rp] at h ⊢; exact ⟨[], List.nil_sublist _, h.1, rfl⟩
  | _, _, .int _, _, _, _, h, _, _ => by simp only [Rp] at h ⊢; exact ⟨[], List.nil_sublist _, h.1, rfl⟩
  | _, _, .str _, _, _, _, h, _, _ => by simp only [Rp] at h ⊢; exact ⟨[], List.nil_sublist _, h.1, rfl⟩
  | _, _, .scr _, _, _, _, h, _, _ => by simp only [Rp] at h ⊢; obtain ⟨a, e, s, el⟩ := h; exact ⟨[], List.nil_sublist _, a, e, s, rfl⟩
  | m, k, .exn c ns ds, v, l, hk, h, n, s => by
    simp only [Rp] at h ⊢; obtain ⟨a, d, e, st, el, q⟩ := h
    refine ⟨[], List.nil_sublist _, a, d, e, st, rfl, ?_⟩
    rcases q with q | ⟨dx, vs, e1, e2, e3, r⟩
    · exact .inl q
    · exact .inr ⟨dx, vs, e1, e2, e3, r.sub s⟩
  | m, k, .tup ds, _, _, hk, h, n, s => by
    simp only [Rp] at h ⊢; obtain ⟨a, vs, e, st, r⟩ := h
    obtain ⟨l', sb, r'⟩ := Rps.low k hk r n s
    exact ⟨l', sb, a, vs, e, st.low hk, r'⟩
  | 0, k, .lst ds, v, l, hk, h, n, s => by
    obtain rfl : k = 0 := by omega
    have := Rp.zero h; subst this
    exact ⟨[], List.nil_sublist _, h.sub s⟩
  | m + 1, 0, .lst ds, _, _, hk, h, n, s => by
    simp only [Rp] at h ⊢; obtain ⟨a, vs, l', e, st, el, r⟩ := h
    subst el
    obtain ⟨l2, sb, r'⟩ := Rps.low 0 (Nat.zero_le _) r (fun x hx => n x (List.mem_cons_of_mem _ hx)) s
    have := Rps.zero r'; subst this
    exact ⟨[], List.nil_sublist _, a, vs, e, fz_of st (n a List.mem_cons_self), rfl, r'⟩
  | m + 1, k + 1, .lst ds, _, _, hk, h, n, s => by
    simp only [Rp] at h ⊢; obtain ⟨a, vs, l', e, st, el, r⟩ := h
    subst el
    obtain ⟨l2, sb, r'⟩ := Rps.low k (by omega) r (fun x hx => n x (List.mem_cons_of_mem _ hx)) s
    exact ⟨a :: l2, sb.cons_cons a, a, vs, l2, e, st, rfl, r'⟩
  | 0, k, .dct ks ds, v, l, hk, h, n, s => by
    obtain rfl : k = 0 := by omega
    have := Rp.zero h; subst this
    exact ⟨[], List.nil_sublist _, h.sub s⟩
  | m + 1, 0, .dct ks ds, _, _, hk, h, n, s => by
    simp only [Rp] at h ⊢; obtain ⟨a, vs, l', e, z, st, el, r⟩ := h
    subst el
    obtain ⟨l2, sb, r'⟩ := Rps.low 0 (Nat.zero_le _) r (fun x hx => n x (List.mem_cons_of_mem _ hx)) s
    have := Rps.zero r'; subst this
    exact ⟨[], List.nil_sublist _, a, vs, e, z, ⟨st, n a List.mem_cons_self⟩, rfl, r'⟩
  | m + 1, k + 1, .dct ks ds, _, _, hk, h, n, s => by
    simp only [Rp] at h ⊢; obtain ⟨a, vs, l', e, z, st, el, r⟩ := h
    subst el
    obtain ⟨l2, sb, r'⟩ := Rps.low k (by omega) r (fun x hx => n x (List.mem_cons_of_mem _ hx)) s
    exact ⟨a :: l2, sb.cons_cons a, a, vs, l2, e, z, st, rfl, r'⟩
theorem Rps.low : ∀ {m : Nat} (k : Nat) {ds : List D} {vs : List V} {l : As}, k ≤ m → Rps K H N m ds vs l → (∀ a ∈ l, a ∉ N') → (∀ a ∈ N', a ∈ N) → ∃ l', (l').Sublist l ∧ Rps K H N' k ds vs l'
  | _, _, [], _, _, _, h, _, _ => by simp only [Rps] at h ⊢; exact ⟨[], List.nil_sublist _, h.1, rfl⟩
  | m, k, d :: ds, _, _, hk, h, n, s => by
    simp only [Rps] at h ⊢; obtain ⟨v, vr, l1, l2, e, el, r1, r2⟩ := h
    subst el
    obtain ⟨l1', s1, q1⟩ := Rp.low k hk r1 (fun x hx => n x (List.mem_append_left _ hx)) s
    obtain ⟨l2', s2, q2⟩ := Rps.low k hk r2 (fun x hx => n x (List.mem_append_right _ hx)) s
    exact ⟨l1' ++ l2', s1.append s2, v, vr, l1', l2', e, rfl, q1, q2⟩
end
theorem Rp.fz {m : Nat} {d : D} {v : V} {l : As} (h : Rp K H N m d v l) (n : ∀ a ∈ l, a ∉ N') (s : ∀ a ∈ N', a ∈ N) : Rp K H N' 0 d v [] := by
  obtain ⟨l', _, r⟩ := h.low 0 (Nat.zero_le _) n s
  have := r.zero; subst this; exact r
theorem Rps.fz {m : Nat} {d : List D} {v : List V} {l : As} (h : Rps K H N m d v l) (n : ∀ a ∈ l, a ∉ N') (s : ∀ a ∈ N', a ∈ N) : Rps K H N' 0 d v [] := by
  obtain ⟨l', _, r⟩ := h.low 0 (Nat.zero_le _) n s
  have := r.zero; subst this; exact r
end
end DL
namespace DL
open PySem PySem.Spec L2
open PyProof.Rows hiding St
abbrev Env := List (Option (Nat × D))
def SRs (K : PySem.W.Frag) (H : Hp) (N : As) : Env → St → As → Prop
  | [], σ, l => σ = [] ∧ l = []
  | none :: δ, σ, l => ∃ x σ', σ = x :: σ' ∧ SRs K H N δ σ' l
  | some p :: δ, σ, l => ∃ v σ' l1 l2, σ = some v :: σ' ∧ l = l1 ++ l2 ∧ Rp K H N p.1 p.2 v l1 ∧ SRs K H N δ σ' l2
section
variable {K : PySem.W.Frag} {H H' : Hp} {N N' : As}
theorem SRs.len : ∀ {δ : Env} {σ : St} {l : As}, SRs K H N δ σ l → σ.length = δ.length
  | [], _, _, h => by rw [h.1]; rfl
  | none :: δ, _, _, h => by obtain ⟨x, σ', e, r⟩ := h; rw [e]; simp [SRs.len r]
  | some p :: δ, _, _, h => by obtain ⟨v, σ', l1, l2, e, _, _, r⟩ := h; rw [e]; simp [SRs.len r]
theorem SRs.own : ∀ {δ : Env} {σ : St} {l : As}, SRs K H N δ σ l → ∀ a ∈ l, IsOwn H a
  | [], _, _, h, a, ha => by rw [h.2] at ha; cases ha
  | none :: δ, _, _, h, a, ha => by obtain ⟨x, σ', e, r⟩ := h; exact SRs.own r a ha
  | some p :: δ, _, _, h, a, ha => by
    obtain ⟨v, σ', l1, l2, e, el, rp, r⟩ := h
    rw [el] at ha
    rcases List.mem_append.mp ha with ha | ha
    · exact rp.own a ha
    · exact SRs.own r a ha
theorem SRs.step {L : As} (k : Kp H H' L) (hL : ∀ a ∈ L, a ∈ N) (w : Nw H N N') : ∀ {δ : Env} {σ : St} {l : As}, SRs K H N δ σ l → (∀ a ∈ l, a ∉ L) → SRs K H' N' δ σ l
  | [], _, _, h, _ => h
  | none :: δ, _, _, h, n => by obtain ⟨x, σ', e, r⟩ := h; exact ⟨x, σ', e, SRs.step k hL w r n⟩
  | some p :: δ, _, _, h, n => by
    obtain ⟨v, σ', l1, l2, e, el, rp, r⟩ := h
    subst el
    exact ⟨v, σ', l1, l2, e, rfl, rp.step k hL w fun a ha => n a (List.mem_append_left _ ha), SRs.step k hL w r fun a ha => n a (List.mem_append_right _ ha)⟩
theorem SRs.sub {δ : Env} {σ : St} {l : As} (h : SRs K H N δ σ l) (s : ∀ a ∈ N', a ∈ N) : SRs K H N' δ σ l :=
  h.step Kp.refl (fun _ z => by cases z) (fun a q => .inl (s a q)) fun _ _ z => by cases z
theorem SRs.get : ∀ {δ : Env} {σ : St} {l : As} {i : Nat} {p : Nat × D}, SRs K H N δ σ l → δ[i]? = some (some p) →
    ∃ v l1 l2, σ[i]? = some (some v) ∧ l.Perm (l1 ++ l2) ∧ Rp K H N p.1 p.2 v l1 ∧ SRs K H N (δ.set i none) σ l2
  | [], _, _, i, p, h, e => by simp at e
  | none :: δ, _, _, 0, p, h, e => by simp at e
  | none :: δ, _, _, i + 1, p, h, e => by
    obtain ⟨x, σ', e', r⟩ := h
    obtain ⟨v, l1, l2, h1, h2, h3, h4⟩ := SRs.get r (by simpa using e)
    exact ⟨v, l1, l2, by rw [e']; simpa using h1, h2, h3, x, σ', e', h4⟩
  | some q :: δ, _, _, 0, p, h, e => by
    obtain ⟨v, σ', l1, l2, e', el, rp, r⟩ := h
    have : q = p := by simpa using e
    subst this
    exact ⟨v, l1, l2, by rw [e']; rfl, by rw [el], rp, some v, σ', e', r⟩
  | some q :: δ, _, _, i + 1, p, h, e => by
    obtain ⟨v', σ', l1', l2', e', el, rp, r⟩ := h
    obtain ⟨v, l1, l2, h1, h2, h3, h4⟩ := SRs.get r (by simpa using e)
    refine ⟨v, l1, l1' ++ l2, by rw [e']; simpa using h1, ?_, h3, v', σ', l1', l2, e', rfl, rp, h4⟩
    rw [el]
    exact (List.Perm.append_left l1' h2).trans (by
      rw [← List.append_assoc, ← List.append_assoc]
      exact List.Perm.append_right l2 List.perm_append_comm)
theorem SRs.put : ∀ {δ : Env} {σ : St} {l : As} {i : Nat} {p : Nat × D} {v : V} {l1 : As}, SRs K H N δ σ l → δ[i]? = some none → Rp K H N p.1 p.2 v l1 →
    ∃ l', l'.Perm (l1 ++ l) ∧ SRs K H N (δ.set i (some p)) (σ.set i (some v)) l'
  | [], _, _, i, p, v, l1, h, e, rp => by simp at e
  | none :: δ, _, l, 0, p, v, l1, h, e, rp => by
    obtain ⟨x, σ', e', r⟩ := h
    exact ⟨l1 ++ l, List.Perm.refl _, v, σ', l1, l, by rw [e']; rfl, rfl, rp, r⟩
  | none :: δ, _, _, i + 1, p, v, l1, h, e, rp => by
    obtain ⟨x, σ', e', r⟩ := h
    obtain ⟨l', h1, h2⟩ := SRs.put r (i := i) (by simpa using e) rp
    exact ⟨l', h1, x, σ'.set i (some v), by rw [e']; rfl, h2⟩
  | some q :: δ, _, _, 0, p, v, l1, h, e, rp => by simp at e
  | some q :: δ, _, _, i + 1, p, v, l1, h, e, rp => by
    obtain ⟨v', σ', l1', l2', e', el, rp', r⟩ := h
    obtain ⟨l', h1, h2⟩ := SRs.put r (i := i) (by simpa using e) rp
    refine ⟨l1' ++ l', ?_, v', σ'.set i (some v), l1', l', by rw [e']; rfl, rfl, rp', h2⟩
    rw [el]
    exact (List.Perm.append_left l1' h1).trans (by
      rw [← List.append_assoc, ← List.append_assoc]
      exact List.Perm.append_right l2' List.perm_append_comm)
theorem SRs.drop : ∀ {δ : Env} {σ : St} {l : As} (i : Nat), SRs K H N δ σ l → ∃ l', l'.Sublist l ∧ SRs K H N (δ.set i none) σ l'
  | [], _, _, i, h => ⟨[], List.nil_sublist _, h.1, rfl⟩
  | none :: δ, _, l, 0, h => ⟨l, List.Sublist.refl _, h⟩
  | none :: δ, _, _, i + 1, h => by
    obtain ⟨x, σ', e', r⟩ := h
    obtain ⟨l', h1, h2⟩ := SRs.drop i r
    exact ⟨l', h1, x, σ', e', h2⟩
  | some q :: δ, _, _, 0, h => by
    obtain ⟨v', σ', l1', l2', e', el, rp', r⟩ := h
    exact ⟨l2', by rw [el]; exact List.sublist_append_right _ _, some v', σ', e', r⟩
  | some q :: δ, _, _, i + 1, h => by
    obtain ⟨v', σ', l1', l2', e', el, rp', r⟩ := h
    obtain ⟨l', h1, h2⟩ := SRs.drop i r
    exact ⟨l1' ++ l', by rw [el]; exact List.Sublist.append (List.Sublist.refl _) h1, v', σ', l1', l', e', rfl, rp', h2⟩
theorem SRs.any : ∀ {δ : Env} {σ : St} {l : As} (i : Nat) (x : Option V), SRs K H N δ σ l → (∀ p, δ[i]? ≠ some (some p)) → SRs K H N δ (σ.set i x) l
  | [], _, _, i, x, h, n => by rw [h.1]; exact ⟨rfl, h.2⟩
  | none :: δ, _, l, 0, x, h, n => by obtain ⟨y, σ', e', r⟩ := h; exact ⟨x, σ', by rw [e']; rfl, r⟩
  | none :: δ, _, _, i + 1, x, h, n => by
    obtain ⟨y, σ', e', r⟩ := h
    exact ⟨y, σ'.set i x, by rw [e']; rfl, SRs.any i x r fun p => by simpa using n p⟩
  | some q :: δ, _, _, 0, x, h, n => absurd rfl (n q)
  | some q :: δ, _, _, i + 1, x, h, n => by
    obtain ⟨v', σ', l1', l2', e', el, rp', r⟩ := h
    exact ⟨v', σ'.set i x, l1', l2', by rw [e']; rfl, el, rp', SRs.any i x r fun p => by simpa using n p⟩
end
structure SR (K : PySem.W.Frag) (σ : St) (H : Hp) (δ : Env) (L R : As) : Prop where
  rel : ∃ l, l.Perm L ∧ SRs K H (L ++ R) δ σ l
  nd : (L ++ R).Nodup
  tr : ∀ a ∈ R, IsOwn H a
section
variable {K : PySem.W.Frag} {H H' H1 H2 : Hp} {σ : St} {δ δ1 : Env} {L L1 L2 L' R R' : As}
theorem SR.own (s : SR K σ H δ L R) : ∀ a ∈ L, IsOwn H a := by
  obtain ⟨l, p, r⟩ := s.rel
  exact fun a ha => r.own a (p.mem_iff.mpr ha)
theorem SR.len (s : SR K σ H δ L R) : σ.length = δ.length := by
  obtain ⟨l, p, r⟩ := s.rel
  exact r.len
theorem SR.get (s : SR K σ H δ L R) {i : Nat} {m : Nat} {d : D} (e : δ[i]? = some (some (m, d))) :
    ∃ v l L2, σ[i]? = some (some v) ∧ L.Perm (l ++ L2) ∧ Rp K H (L ++ R) m d v l ∧ SR K σ H (δ.set i none) L2 (l ++ R) := by
  obtain ⟨l, p, r⟩ := s.rel
  obtain ⟨v, l1, l2, h1, h2, h3, h4⟩ := r.get e
  have pL : L.Perm (l1 ++ l2) := p.symm.trans h2
  have pN : (L ++ R).Perm (l2 ++ (l1 ++ R)) := (List.Perm.append_right R pL).trans (by
    rw [← List.append_assoc]; exact List.Perm.append_right R List.perm_append_comm)
  refine ⟨v, l1, l2, h1, pL, h3, ⟨l2, List.Perm.refl _, h4.sub fun a ha => pN.mem_iff.mpr ha⟩, pN.nodup_iff.mp s.nd, fun a ha => ?_⟩
  rcases List.mem_append.mp ha with ha | ha
  · exact h3.own a ha
  · exact s.tr a ha
theorem SR.put (s : SR K σ H δ L (l ++ R)) {i : Nat} {m : Nat} {d : D} {v : V} (e : δ[i]? = some none) (rp : Rp K H (L ++ (l ++ R)) m d v l) :
    SR K (σ.set i (some v)) H (δ.set i (some (m, d))) (l ++ L) R := by
  obtain ⟨l0, p, r⟩ := s.rel
  obtain ⟨l', h1, h2⟩ := r.put (p := (m, d)) e rp
  have pN : (l ++ L ++ R).Perm (L ++ (l ++ R)) := by
    rw [← List.append_assoc]; exact List.Perm.append_right R List.perm_append_comm
  refine ⟨⟨l', h1.trans (List.Perm.append_left l p), h2.sub fun a ha => pN.mem_iff.mp ha⟩, pN.nodup_iff.mpr s.nd, fun a ha => s.tr a (List.mem_append_right _ ha)⟩
theorem SR.drop (s : SR K σ H δ L R) (i : Nat) : ∃ L', L'.Sublist L ∧ SR K σ H (δ.set i none) L' R := by
  obtain ⟨l, p, r⟩ := s.rel
  obtain ⟨l', h1, h2⟩ := r.drop i
  obtain ⟨L', q1, q2⟩ := List.exists_perm_sublist h1 p
  have sub : ∀ a ∈ L' ++ R, a ∈ L ++ R := fun a ha => by
    rcases List.mem_append.mp ha with ha | ha
    · exact List.mem_append_left _ (q2.subset ha)
    · exact List.mem_append_right _ ha
  exact ⟨L', q2, ⟨l', q1.symm, h2.sub sub⟩, s.nd.sublist (List.Sublist.append q2 (List.Sublist.refl _)), s.tr⟩
theorem SR.any (s : SR K σ H δ L R) (i : Nat) (x : Option V) (n : ∀ p, δ[i]? ≠ some (some p)) : SR K (σ.set i x) H δ L R := by
  obtain ⟨l, p, r⟩ := s.rel
  exact ⟨⟨l, p, r.any i x n⟩, s.nd, s.tr⟩
theorem SR.less (s : SR K σ H δ L R) (h : R'.Sublist R) : SR K σ H δ L R' := by
  obtain ⟨l, p, r⟩ := s.rel
  have sb := List.Sublist.append (List.Sublist.refl L) h
  exact ⟨⟨l, p, r.sub fun a ha => sb.subset ha⟩, s.nd.sublist sb, fun a ha => s.tr a (h.subset ha)⟩
theorem SR.perm (s : SR K σ H δ L R) (hL : L.Perm L') (hR : R.Perm R') : SR K σ H δ L' R' := by
  obtain ⟨l, p, r⟩ := s.rel
  have pN := hL.append hR
  exact ⟨⟨l, p.trans hL, r.sub fun a ha => pN.mem_iff.mpr ha⟩, pN.nodup_iff.mp s.nd, fun a ha => s.tr a (hR.mem_iff.mpr ha)⟩
theorem set_none_get (δ : Env) (i : Nat) : ∀ p, (δ.set i none)[i]? ≠ some (some p) := by
  intro p
  rw [List.getElem?_set]
  split
  · split <;> simp
  · simp at *
theorem SR.set (s : SR K σ H δ L (l ++ R)) {i : Nat} {m : Nat} {d : D} {v : V} (hi : i < δ.length) (rp : Rp K H (L ++ (l ++ R)) m d v l) :
    ∃ L', (∀ a ∈ L', a ∈ l ++ L) ∧ SR K (σ.set i (some v)) H (δ.set i (some (m, d))) L' R := by
  obtain ⟨L2, h1, h2⟩ := s.drop i
  have := h2.put (i := i) (m := m) (d := d) (v := v) (by simp [hi]) (rp.sub fun a ha => by
    rcases List.mem_append.mp ha with ha | ha
    · exact List.mem_append_left _ (h1.subset ha)
    · exact List.mem_append_right _ ha)
  rw [List.set_set] at this
  refine ⟨l ++ L2, fun a ha => ?_, this⟩
  rcases List.mem_append.mp ha with ha | ha
  · exact List.mem_append_left _ ha
  · exact List.mem_append_right _ (h1.subset ha)
theorem SR.step (s : SR K σ H δ L R) {X : As} (k : Kp H H' X) (hX : ∀ a ∈ X, a ∈ R) (nd : (L ++ R').Nodup) (w : Nw H R R') (tr : ∀ a ∈ R', IsOwn H' a) : SR K σ H' δ L R' := by
  obtain ⟨l, p, r⟩ := s.rel
  refine ⟨⟨l, p, r.step k (fun a ha => List.mem_append_right _ (hX a ha)) (fun a ha => ?_) fun a ha z => ?_⟩, nd, tr⟩
  · rcases List.mem_append.mp ha with ha | ha
    · exact .inl (List.mem_append_left _ ha)
    · rcases w a ha with q | q
      · exact .inl (List.mem_append_right _ q)
      · exact .inr q
  · exact (List.nodup_append.mp s.nd).2.2 a (p.mem_iff.mp ha) a (hX a z) rfl
end
section
variable {H H1 H2 : Hp} {L L1 L2 l1 l2 : As}
theorem Kp.trans (a : Kp H H1 L) (w : Nw H L L1) (b : Kp H1 H2 L1) : Kp H H2 L :=
  ⟨fun x o e n => b.kp x o (a.kp x o e n) (fun z => by
    rcases w x z with q | q
    · exact n q
    · rw [e] at q; cases q), a.ow⟩
theorem Nw.trans (a : Kp H H1 L) (w : Nw H L L1) (w2 : Nw H1 L1 L2) : Nw H L L2 := fun x hx => by
  rcases w2 x hx with q | q
  · exact w x q
  · by_cases n : x ∈ L
    · exact .inl n
    · refine .inr ?_
      cases e : H x with
      | none => rfl
      | some o => rw [a.kp x o e n] at q; cases q
theorem Nw.left (w : Nw H L (l1 ++ L1)) : Nw H L l1 := fun a h => w a (List.mem_append_left _ h)
theorem Nw.right (w : Nw H L (l1 ++ L1)) : Nw H L L1 := fun a h => w a (List.mem_append_right _ h)
theorem Nw.both (a : Nw H L l1) (b : Nw H L L1) : Nw H L (l1 ++ L1) := fun x h => (List.mem_append.mp h).elim (a x) (b x)
theorem Nw.refl : Nw H L L := fun _ h => .inl h
end
theorem SR.kp {K : PySem.W.Frag} {H : Hp} {σ : St} {δ : Env} {L R : As} (s : SR K σ H δ L R) : Kp H H L := ⟨fun _ _ e _ => e, s.own⟩
structure XD where
  cls : Str
  ns : List Str
  ds : List D
def XRel (K : PySem.W.Frag) (mg : Str → Option Value) (H : Hp) (N : As) (x : XD) (c : Value) (dx : Option Addr) : Prop :=
  c = .ref (He.ga K x.cls) ∧ ((x.ns = [] ∧ x.ds = [] ∧ dx = none) ∨ ∃ a vs, dx = some a ∧ H a = some (.xd (x.ns.zip vs)) ∧ x.ns.length = vs.length ∧ Rps K H N 0 x.ds vs [])
theorem XRel.step {K : PySem.W.Frag} {mg : Str → Option Value} {H H' : Hp} {N N' L : As} {x : XD} {c : Value} {dx : Option Addr} (h : XRel K mg H N x c dx) (k : Kp H H' L) (hL : ∀ a ∈ L, a ∈ N) (w : Nw H N N') : XRel K mg H' N' x c dx := by
  obtain ⟨h2, h3⟩ := h
  refine ⟨h2, ?_⟩
  rcases h3 with h3 | ⟨a, vs, e, ha, hl, r⟩
  · exact .inl h3
  · refine .inr ⟨a, vs, e, k.kp _ _ ha fun z => ?_, hl, r.step k hL w fun _ z => by cases z⟩
    rcases k.ow a z with ⟨_, q⟩ | ⟨_, q⟩ <;> rw [ha] at q <;> cases q
inductive Res where
  | ok (m : Nat) (d : D) (δ : Env) | exc (x : XD) (δ : Env) | bad
inductive ARes where
  | ok (ds : List (Nat × D)) (δ : Env) | exc (x : XD) (δ : Env) | bad
inductive TRes where
  | ok (b : Bool) (δ : Env) | exc (x : XD) (δ : Env) | bad
abbrev EV := Env → Res
def XOk (X : Cx) (W : WX) (σ : St) (H : Hp) (L R : As) (x : XD) (δ' : Env) : Prop :=
  ∀ c dx H' L', Kp H H' L → Nw H L L' → SR X.K σ H' δ' L' R → XRel X.K X.mg H' (L' ++ R) x c dx → W c dx σ H'
def EOk (X : Cx) (W : WX) (σ : St) (H : Hp) (L R : As) (Q : VK) : Res → Prop
  | .ok m d δ' => ∀ v H' l L', Kp H H' L → Nw H L (l ++ L') → SR X.K σ H' δ' L' (l ++ R) → Rp X.K H' (L' ++ (l ++ R)) m d v l → Q v H'
  | .exc x δ' => XOk X W σ H L R x δ'
  | .bad => False
def TOk (X : Cx) (W : WX) (σ : St) (H : Hp) (L R : As) (Q : Bool → Hp → Prop) : TRes → Prop
  | .ok b δ' => ∀ H' L', Kp H H' L → Nw H L L' → SR X.K σ H' δ' L' R → Q b H'
  | .exc x δ' => XOk X W σ H L R x δ'
  | .bad => False
def RpL (K : PySem.W.Frag) (H : Hp) (N : As) : List (Nat × D) → List V → As → Prop
  | [], vs, l => vs = [] ∧ l = []
  | p :: ps, vs, l => ∃ v vr l1 l2, vs = v :: vr ∧ l = l1 ++ l2 ∧ Rp K H N p.1 p.2 v l1 ∧ RpL K H N ps vr l2
def AOk (X : Cx) (W : WX) (σ : St) (H : Hp) (L R : As) (Q : List V → Hp → Prop) : ARes → Prop
  | .ok ps δ' => ∀ vs H' l L', Kp H H' L → Nw H L (l ++ L') → SR X.K σ H' δ' L' (l ++ R) → RpL X.K H' (L' ++ (l ++ R)) ps vs l → Q vs H'
  | .exc x δ' => XOk X W σ H L R x δ'
  | .bad => False
structure DE (X : Cx) (W : WX) (e : Expr) (f : EV) : Prop where
  ex : ∃ t, PE X e t ∧ ∀ σ H δ L R Q, SR X.K σ H δ L R → EOk X W σ H L R Q (f δ) → t σ H Q
structure DT (X : Cx) (W : WX) (e : Expr) (f : Env → TRes) : Prop where
  ex : ∃ t, PT X e t ∧ ∀ σ H δ L R Q, SR X.K σ H δ L R → TOk X W σ H L R Q (f δ) → t σ H Q
structure DA (X : Cx) (W : WX) (es : List Expr) (f : Env → ARes) : Prop where
  ex : ∃ t, PA X es t ∧ ∀ σ H δ L R Q, SR X.K σ H δ L R → AOk X W σ H L R Q (f δ) → t σ H Q
section
variable {X : Cx} {W : WX} {σ : St} {H H1 : Hp} {L L1 R l1 : As} {δ1 : Env} {Q : VK}
theorem XOk.more {x : XD} {δ' : Env} (k : Kp H H1 L) (w : Nw H L (l1 ++ L1)) (h : XOk X W σ H L R x δ') : XOk X W σ H1 L1 (l1 ++ R) x δ' := fun c dx H' L' k' w' s' r' =>
  h c dx H' L' (k.trans w.right k') (Nw.trans k w.right w') (s'.less (List.sublist_append_right _ _)) (r'.step Kp.refl (fun _ z => by cases z) fun a ha => .inl (by
    rcases List.mem_append.mp ha with ha | ha
    · exact List.mem_append_left _ ha
    · exact List.mem_append_right _ (List.mem_append_right _ ha)))
theorem XOk.same {x : XD} {δ' : Env} (k : Kp H H1 L) (w : Nw H L L1) (h : XOk X W σ H L R x δ') : XOk X W σ H1 L1 R x δ' := fun c dx H' L' k' w' s' r' =>
  h c dx H' L' (k.trans w k') (Nw.trans k w w') s' r'
theorem TOk.same {Q : Bool → Hp → Prop} {r : TRes} (k : Kp H H1 L) (w : Nw H L L1) (h : TOk X W σ H L R Q r) : TOk X W σ H1 L1 R Q r := by
  cases r with
  | ok b δ' => exact fun H' L' k' w' s' => h H' L' (k.trans w k') (Nw.trans k w w') s'
  | exc x δ' => exact XOk.same k w h
  | bad => exact h
theorem EOk.same {r : Res} (k : Kp H H1 L) (w : Nw H L L1) (h : EOk X W σ H L R Q r) : EOk X W σ H1 L1 R Q r := by
  cases r with
  | ok m d δ' => exact fun v H' l L' k' w' s' => h v H' l L' (k.trans w k') (Nw.trans k w w') s'
  | exc x δ' => exact XOk.same k w h
  | bad => exact h
theorem tmp_step {K : PySem.W.Frag} {H1 H2 : Hp} {σ : St} {δ1 : Env} {L1 L2 l1 l2 R : As} (s1 : SR K σ H1 δ1 L1 (l1 ++ R)) (k : Kp H1 H2 L1) (w : Nw H1 L1 (l2 ++ L2)) : (∀ a ∈ l1, a ∉ L1) ∧ Nw H1 (L1 ++ (l1 ++ R)) (L2 ++ (l2 ++ (l1 ++ R))) := by
  refine ⟨fun a h1 h2 => (List.nodup_append.mp s1.nd).2.2 a h2 a (List.mem_append_left _ h1) rfl, fun a ha => ?_⟩
  rcases List.mem_append.mp ha with ha | ha
  · exact (w.right a ha).imp_left fun q => List.mem_append_left _ q
  · rcases List.mem_append.mp ha with ha | ha
    · exact (w.left a ha).imp_left fun q => List.mem_append_left _ q
    · exact .inl (List.mem_append_right _ ha)
end
end DL
namespace DL
open PySem PySem.Spec L2
open PyProof.Rows hiding St
def ROk (K : PySem.W.Frag) (H : Hp) (B : As) (Q : VK) : Option (Nat × D) → Prop
  | some (m, d) => ∀ v H' l, (∀ a o, H a = some o → H' a = some o) → l.Nodup → (∀ a ∈ l, H a = none) → Rp K H' (l ++ B) m d v l → Q v H'
  | none => False
def toRes (δ : Env) : Option (Nat × D) → Res
  | some (m, d) => .ok m d δ
  | none => .bad
def e1 (g : D → Option (Nat × D)) (f : EV) : EV := fun δ => match f δ with
  | .ok _ d δ' => toRes δ' (g d)
  | r => r
def e2 (g : D → D → Option (Nat × D)) (fa fb : EV) : EV := fun δ => match fa δ with
  | .ok _ d δ1 => (match fb δ1 with
    | .ok _ e δ2 => toRes δ2 (g d e)
    | r => r)
  | r => r
def eN (g : List D → Option (Nat × D)) (f : Env → ARes) : EV := fun δ => match f δ with
  | .ok ds δ' => toRes δ' (g (ds.map (·.2)))
  | .exc x δ' => .exc x δ'
  | .bad => .bad
def OpF1 (K : PySem.W.Frag) (r : V → Hp → VK → Prop) (g : D → Option (Nat × D)) : Prop :=
  ∀ H B d v Q, Rp K H B 0 d v [] → ROk K H B Q (g d) → r v H Q
def OpF2 (K : PySem.W.Frag) (r : R2) (g : D → D → Option (Nat × D)) : Prop :=
  ∀ H B d v e u Q, Rp K H B 0 d v [] → Rp K H B 0 e u [] → ROk K H B Q (g d e) → r v u H Q
def OpFN (K : PySem.W.Frag) (r : List V → Hp → VK → Prop) (g : List D → Option (Nat × D)) : Prop :=
  ∀ H B ds vs Q, Rps K H B 0 ds vs [] → ROk K H B Q (g ds) → r vs H Q
section
variable {X : Cx} {W : WX} {σ : St} {H H1 : Hp} {L L1 R l l1 : As} {δ1 : Env} {Q : VK}
theorem fin_new {r : Option (Nat × D)} (k : Kp H H1 L) (w : Nw H L (l ++ L1)) (s1 : SR X.K σ H1 δ1 L1 (l ++ R)) (h : EOk X W σ H L R Q (toRes δ1 r)) : ROk X.K H1 (L1 ++ R) Q r := by
  cases r with
  | none => exact h
  | some p =>
    obtain ⟨m, d⟩ := p
    intro v H' l' ext nd new rp
    have h : EOk X W σ H L R Q (.ok m d δ1) := h
    have fresh : ∀ a ∈ l', ∀ b ∈ L1 ++ R, a ≠ b := fun a ha b hb z => by
      subst z
      have hb' : IsOwn H1 a := (List.mem_append.mp hb).elim (s1.own a) fun q => s1.tr a (List.mem_append_right _ q)
      exact hb'.ne (new a ha)
    have io : ∀ {a}, IsOwn H1 a → IsOwn H' a := fun {a} q => q.imp (fun ⟨x, e⟩ => ⟨x, ext _ _ e⟩) fun ⟨x, e⟩ => ⟨x, ext _ _ e⟩
    have kk : Kp H1 H' [] := ⟨fun a o e _ => ext a o e, fun a z => by cases z⟩
    have nd0 : (L1 ++ R).Nodup := s1.nd.sublist (List.Sublist.append (List.Sublist.refl _) (List.sublist_append_right _ _))
    have nd1 : (L1 ++ (l' ++ R)).Nodup := by
      have : (l' ++ (L1 ++ R)).Nodup := List.nodup_append.mpr ⟨nd, nd0, fresh⟩
      refine List.Perm.nodup_iff ?_ |>.mp this
      rw [← List.append_assoc, ← List.append_assoc]
      exact List.Perm.append_right R List.perm_append_comm
    have s2 : SR X.K σ H' δ1 L1 (l' ++ R) := by
      refine (s1.less (List.sublist_append_right _ _)).step kk (fun a z => by cases z) nd1 (fun a ha => ?_) fun a ha => ?_
      · exact (List.mem_append.mp ha).elim (fun q => .inr (new a q)) .inl
      · exact (List.mem_append.mp ha).elim (fun q => rp.own a q) fun q => io (s1.tr a (List.mem_append_right _ q))
    refine h v H' l' L1 ⟨fun a o e n => ext a o (k.kp a o e n), k.ow⟩ (Nw.both ?_ w.right) s2 (rp.sub fun a ha => ?_)
    · exact Nw.trans k w.right fun a ha => .inr (new a ha)
    · rcases List.mem_append.mp ha with ha | ha
      · exact List.mem_append_right _ (List.mem_append_left _ ha)
      · rcases List.mem_append.mp ha with ha | ha
        · exact List.mem_append_left _ ha
        · exact List.mem_append_right _ (List.mem_append_right _ ha)
theorem fz_at {K : PySem.W.Frag} (s1 : SR K σ H1 δ1 L1 (l ++ R)) : (∀ a ∈ l, a ∉ L1 ++ R) ∧ ∀ a ∈ L1 ++ R, a ∈ L1 ++ (l ++ R) := by
  have nd := s1.nd
  have nd' : (l ++ (L1 ++ R)).Nodup := by
    refine List.Perm.nodup_iff ?_ |>.mp nd
    rw [← List.append_assoc, ← List.append_assoc]
    exact List.Perm.append_right R List.perm_append_comm
  refine ⟨fun a h1 h2 => (List.nodup_append.mp nd').2.2 a h1 a h2 rfl, fun a h => ?_⟩
  rcases List.mem_append.mp h with h | h
  · exact List.mem_append_left _ h
  · exact List.mem_append_right _ (List.mem_append_right _ h)
end
section
variable {X : Cx} {W : WX} {e e' a b : Expr} {f fa fb : EV}
theorem de_1 {r : V → Hp → VK → Prop} {g : D → Option (Nat × D)} (mk : ∀ t, PE X e t → PE X e' (tUn r t)) (hr : OpF1 X.K r g) (h : DE X W e f) : DE X W e' (e1 g f) := by
  obtain ⟨t, p, q⟩ := h.ex
  refine ⟨tUn r t, mk t p, fun σ H δ L R Q s ok => q σ H δ L R _ s ?_⟩
  unfold e1 at ok
  cases hf : f δ with
  | ok m d δ1 =>
    rw [hf] at ok
    intro v H1 l L1 k w s1 rp
    obtain ⟨z1, z2⟩ := fz_at s1
    exact hr H1 (L1 ++ R) d v Q (rp.fz z1 z2) (fin_new k w s1 ok)
  | exc x δ1 => rw [hf] at ok; exact ok
  | bad => rw [hf] at ok; exact ok
theorem two_of {f1 f2 : EV} {t1 t2 : TE} (q1 : ∀ σ H δ L R Q, SR X.K σ H δ L R → EOk X W σ H L R Q (f1 δ) → t1 σ H Q) (q2 : ∀ σ H δ L R Q, SR X.K σ H δ L R → EOk X W σ H L R Q (f2 δ) → t2 σ H Q)
    {σ : St} {H : Hp} {δ : Env} {L R : As} {P : V → V → Hp → Prop} (s : SR X.K σ H δ L R) (hx : ∀ x δ', f1 δ = .exc x δ' → XOk X W σ H L R x δ') (hb : f1 δ ≠ .bad)
    (h2 : ∀ m d δ1, f1 δ = .ok m d δ1 → f2 δ1 ≠ .bad ∧ (∀ x δ', f2 δ1 = .exc x δ' → XOk X W σ H L R x δ') ∧
      ∀ n e δ2, f2 δ1 = .ok n e δ2 → ∀ v u H2 l1 l2 L2, Kp H H2 L → Nw H L ((l2 ++ l1) ++ L2) → SR X.K σ H2 δ2 L2 ((l2 ++ l1) ++ R) →
        Rp X.K H2 (L2 ++ ((l2 ++ l1) ++ R)) m d v l1 → Rp X.K H2 (L2 ++ ((l2 ++ l1) ++ R)) n e u l2 → P v u H2) :
    t1 σ H fun v H1 => t2 σ H1 fun u H2 => P v u H2 := by
  refine q1 σ H δ L R _ s ?_
  cases e1 : f1 δ with
  | bad => exact absurd e1 hb
  | exc x δ' => exact hx x δ' e1
  | ok m d δ1 =>
    intro v H1 l1 L1 k1 w1 s1 r1
    obtain ⟨hb2, hx2, h3⟩ := h2 m d δ1 e1
    refine q2 σ H1 δ1 L1 (l1 ++ R) _ s1 ?_
    cases e2 : f2 δ1 with
    | bad => exact absurd e2 hb2
    | exc x δ' => exact (hx2 x δ' e2).more k1 w1
    | ok n e δ2 =>
      intro u H2 l2 L2 k2 w2 s2 r2
      obtain ⟨z1, z2⟩ := tmp_step s1 k2 w2
      refine h3 n e δ2 e2 v u H2 l1 l2 L2 (k1.trans w1.right k2) ?_ (by rw [List.append_assoc]; exact s2) ?_ (by rw [List.append_assoc]; exact r2)
      · have a1 : Nw H L (l2 ++ L2) := Nw.trans k1 w1.right w2
        exact Nw.both (Nw.both a1.left w1.left) a1.right
      · rw [List.append_assoc]
        exact r1.step k2 (fun a ha => List.mem_append_left _ ha) z2 z1
theorem de_2 {r : R2} {g : D → D → Option (Nat × D)} (mk : ∀ t u, PE X a t → PE X b u → PE X e' (tOp r t u)) (hr : OpF2 X.K r g) (ha : DE X W a fa) (hb : DE X W b fb) : DE X W e' (e2 g fa fb) := by
  obtain ⟨ta, pa, qa⟩ := ha.ex
  obtain ⟨tb, pb, qb⟩ := hb.ex
  refine ⟨tOp r ta tb, mk ta tb pa pb, fun σ H δ L R Q s ok => ?_⟩
  unfold e2 at ok
  refine two_of qa qb s (fun x δ' e1 => by rw [e1] at ok; exact ok) (fun e1 => by rw [e1] at ok; exact ok) fun m d δ1 e1 => ?_
  rw [e1] at ok
  simp only at ok
  refine ⟨fun e2 => by rw [e2] at ok; exact ok, fun x δ' e2 => by rw [e2] at ok; exact ok, fun n e δ2 e2 v u H2 l1 l2 L2 k w s2 r1 r2 => ?_⟩
  rw [e2] at ok
  simp only at ok
  obtain ⟨z1, z2⟩ := fz_at s2
  exact hr H2 (L2 ++ R) d v e u Q (r1.fz (fun a ha => z1 a (List.mem_append_right _ ha)) z2) (r2.fz (fun a ha => z1 a (List.mem_append_left _ ha)) z2) (fin_new k w s2 ok)
def aNil : Env → ARes := fun δ => .ok [] δ
def aCons (f : EV) (g : Env → ARes) : Env → ARes := fun δ => match f δ with
  | .ok m d δ1 => (match g δ1 with
    | .ok ds δ2 => .ok ((m, d) :: ds) δ2
    | r => r)
  | .exc x δ' => .exc x δ'
  | .bad => .bad
theorem Nw_nil {H : Hp} {L : As} : Nw H L ([] ++ L) := fun _ h => .inl h
theorem da_nil : DA X W [] aNil := ⟨tNil, pa_nil, fun σ H δ L R Q s ok => ok [] H [] L s.kp Nw_nil s ⟨rfl, rfl⟩⟩
theorem da_cons {es : List Expr} {g : Env → ARes} (ha : DE X W e f) (hr : DA X W es g) (hs : starEach (e :: es) X.env = (false, eval e X.env) :: starEach es X.env) : DA X W (e :: es) (aCons f g) := by
  obtain ⟨ta, pa, qa⟩ := ha.ex
  obtain ⟨tr, pr, qr⟩ := hr.ex
  refine ⟨tCons ta tr, pa_cons pa pr hs, fun σ H δ L R Q s ok => ?_⟩
  unfold aCons at ok
  refine qa σ H δ L R _ s ?_
  cases e1 : f δ with
  | bad => rw [e1] at ok; exact ok
  | exc x δ' => rw [e1] at ok; exact ok
  | ok m d δ1 =>
    rw [e1] at ok
    simp only at ok
    intro v H1 l1 L1 k1 w1 s1 r1
    refine qr σ H1 δ1 L1 (l1 ++ R) _ s1 ?_
    cases e2 : g δ1 with
    | bad => rw [e2] at ok; exact ok
    | exc x δ' => rw [e2] at ok; exact XOk.more k1 w1 ok
    | ok ds δ2 =>
      rw [e2] at ok
      intro vs H2 l2 L2 k2 w2 s2 r2
      obtain ⟨z1, z2⟩ := tmp_step s1 k2 w2
      have a1 : Nw H L (l2 ++ L2) := Nw.trans k1 w1.right w2
      have pm : ∀ {A : As}, (l2 ++ (l1 ++ A)).Perm ((l1 ++ l2) ++ A) := fun {A} => by
        rw [← List.append_assoc]; exact List.Perm.append_right A List.perm_append_comm
      refine ok (v :: vs) H2 (l1 ++ l2) L2 (k1.trans w1.right k2) (Nw.both (Nw.both w1.left a1.left) a1.right) (s2.perm (List.Perm.refl _) pm) ⟨v, vs, l1, l2, rfl, rfl, ?_, ?_⟩
      · exact (r1.step k2 (fun a ha => List.mem_append_left _ ha) z2 z1).sub fun a ha => (List.Perm.append_left L2 pm).mem_iff.mpr ha
      · have hN : ∀ a ∈ L2 ++ (l1 ++ l2 ++ R), a ∈ L2 ++ (l2 ++ (l1 ++ R)) := fun a ha => (List.Perm.append_left L2 pm).mem_iff.mpr ha
        have rec1 : ∀ {ps : List (Nat × D)} {vs : List V} {l : As}, RpL X.K H2 (L2 ++ (l2 ++ (l1 ++ R))) ps vs l → RpL X.K H2 (L2 ++ (l1 ++ l2 ++ R)) ps vs l := by
          intro ps
          induction ps with
          | nil => intro vs l h; exact h
          | cons p ps ih =>
            intro vs l h
            obtain ⟨v, vr, a1, a2, h1, h2, h3, h4⟩ := h
            exact ⟨v, vr, a1, a2, h1, h2, h3.sub hN, ih h4⟩
        exact rec1 r2
theorem RpL.fz {K : PySem.W.Frag} {H : Hp} {N N' : As} : ∀ {ps : List (Nat × D)} {vs : List V} {l : As}, RpL K H N ps vs l → (∀ a ∈ l, a ∉ N') → (∀ a ∈ N', a ∈ N) → Rps K H N' 0 (ps.map (·.2)) vs []
  | [], _, _, h, _, _ => ⟨h.1, rfl⟩
  | p :: ps, _, _, h, n, s => by
    obtain ⟨v, vr, l1, l2, h1, h2, h3, h4⟩ := h
    subst h2
    show Rps K H N' 0 (p.2 :: ps.map (·.2)) _ []
    simp only [Rps]
    exact ⟨v, vr, [], [], h1, rfl, h3.fz (fun a ha => n a (List.mem_append_left _ ha)) s, RpL.fz h4 (fun a ha => n a (List.mem_append_right _ ha)) s⟩
theorem de_n {es : List Expr} {r : List V → Hp → VK → Prop} {g : List D → Option (Nat × D)} {fs : Env → ARes} (mk : ∀ t, PA X es t → PE X e' (tCB r t)) (hr : OpFN X.K r g) (h : DA X W es fs) : DE X W e' (eN g fs) := by
  obtain ⟨t, p, q⟩ := h.ex
  refine ⟨tCB r t, mk t p, fun σ H δ L R Q s ok => q σ H δ L R _ s ?_⟩
  unfold eN at ok
  cases hf : fs δ with
  | ok ds δ1 =>
    rw [hf] at ok
    intro vs H1 l L1 k w s1 rp
    obtain ⟨z1, z2⟩ := fz_at s1
    exact hr H1 (L1 ++ R) _ vs Q (rp.fz z1 z2) (fin_new k w s1 ok)
  | exc x δ1 => rw [hf] at ok; exact ok
  | bad => rw [hf] at ok; exact ok
end
def eC (d : D) : EV := fun δ => .ok 0 d δ
def eVar (i : Nat) : EV := fun δ => match δ[i]? with
  | some (some (0, d)) => .ok 0 d δ
  | _ => .bad
def eMove (i : Nat) : EV := fun δ => match δ[i]? with
  | some (some (m, d)) => .ok m d (δ.set i none)
  | _ => .bad
section
variable {X : Cx} {W : WX} {e : Expr}
theorem de_c {v : V} {d : D} (h : PE X e (tC v)) (hd : ∀ H N, Rp X.K H N 0 d v []) : DE X W e (eC d) :=
  ⟨tC v, h, fun σ H δ L R Q s ok => ok v H [] L s.kp Nw_nil s (hd _ _)⟩
theorem de_var {i : Nat} (h : PE X e (tVar i)) : DE X W e (eVar i) := by
  refine ⟨tVar i, h, fun σ H δ L R Q s ok => ?_⟩
  unfold eVar at ok
  split at ok
  · rename_i d hd
    obtain ⟨v, l, L2, h1, h2, h3, h4⟩ := s.get hd
    have := h3.zero; subst this
    exact ⟨v, h1, ok v H [] L s.kp Nw_nil s h3⟩
  · exact ok.elim
theorem de_move {i : Nat} (h : PE X e (tVar i)) : DE X W e (eMove i) := by
  refine ⟨tVar i, h, fun σ H δ L R Q s ok => ?_⟩
  unfold eMove at ok
  split at ok
  · rename_i m d hd
    obtain ⟨v, l, L2, h1, h2, h3, h4⟩ := s.get hd
    have pm : (L ++ R).Perm (L2 ++ (l ++ R)) := (List.Perm.append_right R h2).trans (by
      rw [← List.append_assoc]; exact List.Perm.append_right R List.perm_append_comm)
    exact ⟨v, h1, ok v H l L2 s.kp (fun a ha => .inl (h2.mem_iff.mpr ha)) h4 (h3.sub fun a ha => pm.mem_iff.mpr ha)⟩
  · exact ok.elim
end
end DL
namespace DL
open PySem PySem.Spec L2
open PyProof.Rows hiding St
theorem OpR.or {X : Cx} {f : Value → Value → Sem Value} {r r' : R2} (h : OpR X f r) (h' : OpR X f r') : OpR X f (fun x y H Q => r x y H Q ∨ r' x y H Q) :=
  fun pins s σ H x y v u Q I rx ry q => q.elim (h pins s σ H x y v u Q I rx ry) (h' pins s σ H x y v u Q I rx ry)
theorem CallR.or {X : Cx} {f : Value} {r r' : List V → Hp → VK → Prop} (h : CallR X f r) (h' : CallR X f r') : CallR X f (fun x H Q => r x H Q ∨ r' x H Q) :=
  fun pins s σ H x v Q I rx q => q.elim (h pins s σ H x v Q I rx) (h' pins s σ H x v Q I rx)
mutual
def D.py : D → PyData
  | .non => .none
  | .bl b => .bool b
  | .int i => .int i
  | .str s => .str s
  | .tup xs => .tuple (D.pys xs)
  | .lst xs => .list (D.pys xs)
  | .dct _ _ => .dict []
  | .scr ns => .list (ns.map .int)
  | .exn _ _ _ => .dict []
def D.pys : List D → List PyData
  | [] => []
  | x :: xs => D.py x :: D.pys xs
end
def D.atom : D → Bool
  | .non | .bl _ | .int _ | .str _ => true
  | _ => false
section
variable {K : PySem.W.Frag} {H : Hp} {N B : As} {Q : VK}
theorem dpAll_ints : ∀ ns : List Int, DpAll K H (ns.map V.int) (ns.map .int)
  | [] => .nil
  | n :: ns => .cons (.int n) (dpAll_ints ns)
mutual
theorem Rp.dp : ∀ {d : D} {v : V}, Rp K H N 0 d v [] → d.py.canLay0 = true → Dp K H v d.py
  | .non, v, h, _ => by simp only [Rp] at h; rw [h.1]; exact .non
  | .bl b, v, h, _ => by simp only [Rp] at h; rw [h.1]; exact .bl b
  | .int i, v, h, _ => by simp only [Rp] at h; rw [h.1]; exact .int i
  | .str i, v, h, _ => by simp only [Rp] at h; rw [h.1]; exact .str i
  | .scr ns, v, h, _ => by
    simp only [Rp] at h; obtain ⟨a, e, s, _⟩ := h; rw [e]
    exact .lst s.sq (dpAll_ints ns)
  | .tup ds, v, h, c => by
    simp only [Rp] at h; obtain ⟨a, vs, e, s, r⟩ := h; rw [e]
    exact .tup s (Rps.dp r (by simpa [D.py, PyData.canLay0] using c))
  | .lst ds, v, h, c => by
    simp only [Rp] at h; obtain ⟨a, vs, e, s, _, r⟩ := h; rw [e]
    exact .lst (SqL.of s.1) (Rps.dp r (by simpa [D.py, PyData.canLay0] using c))
  | .dct ks ds, v, h, c => by simp [D.py, PyData.canLay0] at c
  | .exn _ _ _, v, h, c => by simp [D.py, PyData.canLay0] at c
theorem Rps.dp : ∀ {ds : List D} {vs : List V}, Rps K H N 0 ds vs [] → PyData.canLayAll0 (D.pys ds) = true → DpAll K H vs (D.pys ds)
  | [], vs, h, _ => by simp only [Rps] at h; rw [h.1]; exact .nil
  | d :: ds, vs, h, c => by
    simp only [Rps] at h; obtain ⟨v, vr, l1, l2, e, el, r1, r2⟩ := h
    have z1 := r1.zero; have z2 := r2.zero
    subst z1 z2
    simp only [D.pys, PyData.canLayAll0, Bool.and_eq_true] at c
    rw [e]; exact .cons (Rp.dp r1 c.1) (Rps.dp r2 c.2)
end
theorem Rps.app : ∀ {m : Nat} {ds es : List D} {vs us : List V} {l k : As}, Rps K H N m ds vs l → Rps K H N m es us k → Rps K H N m (ds ++ es) (vs ++ us) (l ++ k)
  | m, [], es, vs, us, l, k, h, h' => by simp only [Rps] at h; rw [h.1, h.2]; exact h'
  | m, d :: ds, es, vs, us, l, k, h, h' => by
    simp only [Rps] at h; obtain ⟨v, vr, l1, l2, e, el, r1, r2⟩ := h
    subst e el
    show Rps K H N m (d :: (ds ++ es)) _ _
    simp only [Rps]
    exact ⟨v, vr ++ us, l1, l2 ++ k, rfl, by simp, r1, Rps.app r2 h'⟩
theorem Rps.get : ∀ {ds : List D} {vs : List V} {i : Nat} {d : D}, Rps K H N 0 ds vs [] → ds[i]? = some d → ∃ v, vs[i]? = some v ∧ Rp K H N 0 d v []
  | [], vs, i, d, h, e => by simp at e
  | x :: ds, vs, i, d, h, e => by
    simp only [Rps] at h; obtain ⟨v, vr, l1, l2, e', el, r1, r2⟩ := h
    have z1 := r1.zero; have z2 := r2.zero
    subst z1 z2 e'
    cases i with
    | zero => have : x = d := by simpa using e
              subst this; exact ⟨v, rfl, r1⟩
    | succ i => obtain ⟨u, h1, h2⟩ := Rps.get r2 (i := i) (by simpa using e); exact ⟨u, by simpa using h1, h2⟩
theorem Rps.take : ∀ {ds : List D} {vs : List V} (n : Nat), Rps K H N 0 ds vs [] → Rps K H N 0 (ds.take n) (vs.take n) []
  | [], vs, n, h => by simp only [Rps] at h; rw [h.1]; simp [Rps]
  | x :: ds, vs, 0, h => by simp [Rps]
  | x :: ds, vs, n + 1, h => by
    simp only [Rps] at h; obtain ⟨v, vr, l1, l2, e', el, r1, r2⟩ := h
    have z1 := r1.zero; have z2 := r2.zero
    subst z1 z2 e'
    simp only [List.take_succ_cons, Rps]
    exact ⟨v, _, [], [], rfl, rfl, r1, Rps.take n r2⟩
theorem Rps.drop : ∀ {ds : List D} {vs : List V} (n : Nat), Rps K H N 0 ds vs [] → Rps K H N 0 (ds.drop n) (vs.drop n) []
  | [], vs, n, h => by simp only [Rps] at h; rw [h.1]; simp [Rps]
  | x :: ds, vs, 0, h => h
  | x :: ds, vs, n + 1, h => by
    simp only [Rps] at h; obtain ⟨v, vr, l1, l2, e', el, r1, r2⟩ := h
    have z1 := r1.zero; have z2 := r2.zero
    subst z1 z2 e'
    exact Rps.drop n r2
theorem Rps.one {d : D} {vs : List V} (h : Rps K H N 0 [d] vs []) : ∃ v, vs = [v] ∧ Rp K H N 0 d v [] := by
  simp only [Rps] at h; obtain ⟨v, vr, l1, l2, e, el, r1, r2, _⟩ := h
  have z1 := r1.zero; subst z1 r2; exact ⟨v, e, r1⟩
theorem Rps.two {d e : D} {vs : List V} (h : Rps K H N 0 [d, e] vs []) : ∃ v u, vs = [v, u] ∧ Rp K H N 0 d v [] ∧ Rp K H N 0 e u [] := by
  simp only [Rps] at h; obtain ⟨v, vr, l1, l2, e, el, r1, w, wr, k1, k2, e2, ek, r2, r3, _⟩ := h
  have z1 := r1.zero; have z2 := r2.zero; subst z1 z2 r3 e2; exact ⟨v, w, e, r1, r2⟩
theorem Rp.int {i : Int} {m : Nat} {v : V} {l : As} (h : Rp K H N m (.int i) v l) : v = .int i := by simp only [Rp] at h; exact h.1
theorem Rp.bl {i : Bool} {m : Nat} {v : V} {l : As} (h : Rp K H N m (.bl i) v l) : v = .bl i := by simp only [Rp] at h; exact h.1
theorem Rp.str {i : Str} {m : Nat} {v : V} {l : As} (h : Rp K H N m (.str i) v l) : v = .str i := by simp only [Rp] at h; exact h.1
theorem Rp.non {m : Nat} {v : V} {l : As} (h : Rp K H N m .non v l) : v = .non := by simp only [Rp] at h; exact h.1
theorem Rp.lst {ds : List D} {v : V} (h : Rp K H N 0 (.lst ds) v []) : ∃ a vs, v = .ref a ∧ H a = some (.lst vs) ∧ Rps K H N 0 ds vs [] := by
  simp only [Rp] at h; obtain ⟨a, vs, e, s, _, r⟩ := h; exact ⟨a, vs, e, s.1, r⟩
theorem Rp.tup {ds : List D} {v : V} (h : Rp K H N 0 (.tup ds) v []) : ∃ a vs, v = .ref a ∧ SqT K H a vs ∧ Rps K H N 0 ds vs [] := by
  simp only [Rp] at h; exact h
theorem Rp.scr {ns : List Int} {v : V} {m : Nat} {l : As} (h : Rp K H N m (.scr ns) v l) : ∃ a, v = .ref a ∧ SqL K H a (ns.map V.int) := by
  simp only [Rp] at h; obtain ⟨a, e, s, _⟩ := h; exact ⟨a, e, s.sq⟩
theorem ROk.at {d : D} {v : V} (h : ROk K H B Q (some (0, d))) (hd : Rp K H B 0 d v []) : Q v H := h v H [] (fun _ _ e => e) List.nodup_nil (fun _ z => by cases z) hd
theorem ROk.int {i : Int} (h : ROk K H B Q (some (0, .int i))) : Q (.int i) H := h.at (by simp [Rp])
theorem ROk.bl {i : Bool} (h : ROk K H B Q (some (0, .bl i))) : Q (.bl i) H := h.at (by simp [Rp])
theorem ROk.str {i : Str} (h : ROk K H B Q (some (0, .str i))) : Q (.str i) H := h.at (by simp [Rp])
theorem upd_ext {p : Addr} {o : HO} (hp : H p = none) : ∀ a u, H a = some u → upd H p o a = some u := fun a u e => by
  rw [upd_ne]; exact e
  intro z; subst z; rw [hp] at e; cases e
theorem kp_upd {p : Addr} {o : HO} (hp : H p = none) : Kp H (upd H p o) [] := ⟨fun a u e _ => upd_ext hp a u e, fun _ z => by cases z⟩
theorem Rps.new {m : Nat} {ds : List D} {vs : List V} {l : As} {p : Addr} {o : HO} (hp : H p = none) (h : Rps K H B m ds vs l) : Rps K (upd H p o) (p :: B) m ds vs l :=
  h.step (kp_upd hp) (fun _ z => by cases z) (fun a ha => by
    rcases List.mem_cons.mp ha with rfl | ha
    · exact .inr hp
    · exact .inl ha) fun _ _ z => by cases z
theorem ROk.lst {ds : List D} {vs : List V} (h : ROk K H B Q (some (1, .lst ds))) (r : Rps K H B 0 ds vs []) : ∀ p, H p = none → Q (.ref p) (upd H p (.lst vs)) := fun p hp =>
  h (.ref p) _ [p] (upd_ext hp) (by simp) (fun a ha => by
    have : a = p := by simpa using ha
    subst this; exact hp) (by simp only [Rp]; exact ⟨p, vs, [], rfl, upd_same, rfl, r.new hp⟩)
theorem ROk.tup {ds : List D} {vs : List V} (h : ROk K H B Q (some (0, .tup ds))) (r : Rps K H B 0 ds vs []) : ∀ p, H p = none → Q (.ref p) (upd H p (.tup vs)) := fun p hp =>
  h (.ref p) _ [] (upd_ext hp) (by simp) (fun a ha => by cases ha) (by
    simp only [Rp]; exact ⟨p, vs, rfl, SqT.of upd_same, (r.new hp).sub fun a ha => List.mem_cons_of_mem _ ha⟩)
end
section
variable {K : PySem.W.Frag}
def gAdd : D → D → Option (Nat × D)
  | .int i, .int j => some (0, .int (i + j))
  | .str x, .str y => if x.length + y.length ≤ sizeLine then some (0, .str (x ++ y)) else none
  | .lst xs, .lst ys => if xs.length + ys.length ≤ sizeLine then some (1, .lst (xs ++ ys)) else none
  | .tup xs, .tup ys => if xs.length + ys.length ≤ sizeLine ∧ xs ≠ [] ∧ ys ≠ [] then some (0, .tup (xs ++ ys)) else none
  | .int i, .bl b => some (0, .int (i + b2i b))
  | _, _ => none
def rAddS : R2 := fun x y H Q => ∃ i j, x = .str i ∧ y = .str j ∧ i.length + j.length ≤ sizeLine ∧ Q (.str (i ++ j)) H
def rAddIB : R2 := fun x y H Q => ∃ i k, x = .int i ∧ y = .bl k ∧ Q (.int (i + b2i k)) H
def rAddAll (K : PySem.W.Frag) : R2 := fun x y H Q => (rI0 (fun i j => .int (i + j))) x y H Q ∨ (rAddS x y H Q ∨ (rCat x y H Q ∨ (rCatT K x y H Q ∨ rAddIB x y H Q)))
theorem op_addAll {X : Cx} : OpR X (binaryOp .Add) (rAddAll X.K) := OpR.or op_add (OpR.or op_add_str (OpR.or op_cat (OpR.or op_catT op_add_ib)))
theorem ne_of_len {α β : Type} {xs : List α} {ys : List β} (h : xs.length = ys.length) (n : xs ≠ []) : ys ≠ [] := by
  intro z; subst z; exact n (List.length_eq_zero_iff.mp h)
theorem opf_add : OpF2 K (rAddAll K) gAdd := by
  intro H B d v e u Q h1 h2 ok
  unfold gAdd at ok
  split at ok
  · rw [h1.int, h2.int]; exact .inl ⟨_, _, rfl, rfl, ok.int⟩
  · split at ok
    · rw [h1.str, h2.str]; exact .inr (.inl ⟨_, _, rfl, rfl, by assumption, ok.str⟩)
    · exact ok.elim
  · split at ok
    · obtain ⟨a, vs, rfl, e1, r1⟩ := h1.lst
      obtain ⟨b, us, rfl, e2, r2⟩ := h2.lst
      exact .inr (.inr (.inl ⟨a, b, vs, us, rfl, rfl, e1, e2, by rw [← r1.len, ← r2.len]; assumption, ok.lst (r1.app r2)⟩))
    · exact ok.elim
  · split at ok
    · rename_i hc
      obtain ⟨a, vs, rfl, e1, r1⟩ := h1.tup
      obtain ⟨b, us, rfl, e2, r2⟩ := h2.tup
      exact .inr (.inr (.inr (.inl ⟨a, b, vs, us, rfl, rfl, e1, e2, ne_of_len r1.len hc.2.1, by rw [← r1.len, ← r2.len]; exact hc.1, fun z => absurd z (ne_of_len r2.len hc.2.2), fun _ => ok.tup (r1.app r2)⟩)))
    · exact ok.elim
  · rw [h1.int, h2.bl]; exact .inr (.inr (.inr (.inr ⟨_, _, rfl, rfl, ok.int⟩)))
  · exact ok.elim
def gSub : D → D → Option (Nat × D)
  | .int i, .int j => some (0, .int (i - j))
  | _, _ => none
theorem opf_sub : OpF2 K (rI0 fun i j => .int (i - j)) gSub := by
  intro H B d v e u Q h1 h2 ok
  unfold gSub at ok
  split at ok
  · rw [h1.int, h2.int]; exact ⟨_, _, rfl, rfl, ok.int⟩
  · exact ok.elim
def gMul : D → D → Option (Nat × D)
  | .int i, .int j => if i.natAbs.log2 + j.natAbs.log2 < 1000000 then some (0, .int (i * j)) else none
  | .lst xs, .int k => if -(2 ^ 63) ≤ k ∧ k < 2 ^ 63 ∧ xs.length * k.toNat ≤ sizeLine then some (1, .lst (List.replicate k.toNat xs).flatten) else none
  | _, _ => none
def rMulAll : R2 := fun x y H Q => rI CMulW (fun i j => .int (i * j)) x y H Q ∨ rRep x y H Q
theorem op_mulAll {X : Cx} : OpR X (binaryOp .Mult) rMulAll := OpR.or op_mulW op_rep
theorem Rps.rep {H : Hp} {N : As} {ds : List D} {vs : List V} (h : Rps K H N 0 ds vs []) : ∀ n : Nat, Rps K H N 0 (List.replicate n ds).flatten (List.replicate n vs).flatten []
  | 0 => by simp [Rps]
  | n + 1 => by
    rw [List.replicate_succ, List.replicate_succ, List.flatten_cons, List.flatten_cons]
    exact Rps.app h (Rps.rep h n)
theorem opf_mul : OpF2 K rMulAll gMul := by
  intro H B d v e u Q h1 h2 ok
  unfold gMul at ok
  split at ok
  · split at ok
    · rw [h1.int, h2.int]; exact .inl ⟨_, _, rfl, rfl, by assumption, ok.int⟩
    · exact ok.elim
  · split at ok
    · rename_i hc
      obtain ⟨a, vs, rfl, e1, r1⟩ := h1.lst
      rw [h2.int]
      exact .inr ⟨a, _, vs, rfl, rfl, e1, hc.1, hc.2.1, by rw [← r1.len]; exact hc.2.2, ok.lst (Rps.rep r1 _)⟩
    · exact ok.elim
  · exact ok.elim
def gDiv : D → D → Option (Nat × D)
  | .int i, .int j => if j ≠ 0 ∧ j.natAbs.log2 < 9000 then some (0, .int (i.fdiv j)) else none
  | _, _ => none
def CDivX (_ j : Int) : Prop := j ≠ 0 ∧ j.natAbs.log2 < 9000
theorem op_fdivX {X : Cx} : OpR X (binaryOp .FloorDiv) (rI CDivX fun i j => .int (i.fdiv j)) := opI fun i j _ _ _ _ _ hc q => floordiv_int hc.1 q (.inl (PyProof.noPylong_of_log2 hc.2))
theorem opf_div : OpF2 K (rI CDivX fun i j => .int (i.fdiv j)) gDiv := by
  intro H B d v e u Q h1 h2 ok
  unfold gDiv at ok
  split at ok
  · split at ok
    · rw [h1.int, h2.int]; exact ⟨_, _, rfl, rfl, by assumption, ok.int⟩
    · exact ok.elim
  · exact ok.elim
def gMod : D → D → Option (Nat × D)
  | .int i, .int j => if j ≠ 0 then some (0, .int (i.fmod j)) else none
  | _, _ => none
theorem opf_mod : OpF2 K (rI (fun _ j => j ≠ 0) fun i j => .int (i.fmod j)) gMod := by
  intro H B d v e u Q h1 h2 ok
  unfold gMod at ok
  split at ok
  · split at ok
    · rw [h1.int, h2.int]; exact ⟨_, _, rfl, rfl, by assumption, ok.int⟩
    · exact ok.elim
  · exact ok.elim
def gPow : D → D → Option (Nat × D)
  | .int i, .int j => if 0 ≤ j ∧ j ≤ 1000000 ∧ i.natAbs < 2 ^ 64 then some (0, .int (i ^ j.toNat)) else none
  | _, _ => none
theorem opf_pow : OpF2 K (rI CPow fun i j => .int (i ^ j.toNat)) gPow := by
  intro H B d v e u Q h1 h2 ok
  unfold gPow at ok
  split at ok
  · split at ok
    · rw [h1.int, h2.int]; exact ⟨_, _, rfl, rfl, by assumption, ok.int⟩
    · exact ok.elim
  · exact ok.elim
def gNeg : D → Option (Nat × D)
  | .int i => some (0, .int (-i))
  | _ => none
theorem opf_neg : OpF1 K (rU fun i => .int (-i)) gNeg := by
  intro H B d v Q h ok
  unfold gNeg at ok
  split at ok
  · rw [h.int]; exact ⟨_, rfl, ok.int⟩
  · exact ok.elim
def isShaped (d : D) : Bool := SeqAt.shaped d.py
def gEq : D → D → Option (Nat × D)
  | .int i, .int j => some (0, .bl (decide (i = j)))
  | .bl i, .bl j => some (0, .bl (decide (i = j)))
  | .str i, .str j => some (0, .bl (decide (i = j)))
  | d, e => if isShaped d && isShaped e then some (0, .bl (PyData.eqv d.py e.py)) else none
def rEqAll (K : PySem.W.Frag) : R2 := fun x y H Q => rEq x y H Q ∨ rEqD K x y H Q
def rNeAll (K : PySem.W.Frag) : R2 := fun x y H Q => rNe x y H Q ∨ rNeD K x y H Q
theorem op_eqAll {X : Cx} (hu : X.A.units + 64 < cLine) : OpR X (compareOp .Eq) (rEqAll X.K) := OpR.or op_eq (op_eqD hu)
theorem op_neAll {X : Cx} (hu : X.A.units + 64 < cLine) : OpR X (compareOp .NotEq) (rNeAll X.K) := OpR.or op_ne (op_neD hu)
theorem decInt {i j : Int} : decide (V.int i = V.int j) = decide (i = j) := by simp
theorem decBl {i j : Bool} : decide (V.bl i = V.bl j) = decide (i = j) := by simp
theorem decStr {i j : Str} : decide (V.str i = V.str j) = decide (i = j) := by simp
theorem opf_eq : OpF2 K (rEqAll K) gEq := by
  intro H B d v e u Q h1 h2 ok
  unfold gEq at ok
  split at ok
  · rw [h1.int, h2.int]; exact .inl ⟨rfl, by rw [decInt]; exact ok.bl⟩
  · rw [h1.bl, h2.bl]; exact .inl ⟨rfl, by rw [decBl]; exact ok.bl⟩
  · rw [h1.str, h2.str]; exact .inl ⟨rfl, by rw [decStr]; exact ok.bl⟩
  · split at ok
    · rename_i hc
      simp only [Bool.and_eq_true] at hc
      exact .inr ⟨d.py, e.py, h1.dp (SeqAt.canLay_of_shaped hc.1), h2.dp (SeqAt.canLay_of_shaped hc.2), hc.1, hc.2, ok.bl⟩
    · exact ok.elim
def gNe : D → D → Option (Nat × D)
  | .int i, .int j => some (0, .bl (!decide (i = j)))
  | .bl i, .bl j => some (0, .bl (!decide (i = j)))
  | .str i, .str j => some (0, .bl (!decide (i = j)))
  | d, e => if isShaped d && isShaped e then some (0, .bl (!PyData.eqv d.py e.py)) else none
theorem opf_ne : OpF2 K (rNeAll K) gNe := by
  intro H B d v e u Q h1 h2 ok
  unfold gNe at ok
  split at ok
  · rw [h1.int, h2.int]; exact .inl ⟨rfl, by rw [decInt]; exact ok.bl⟩
  · rw [h1.bl, h2.bl]; exact .inl ⟨rfl, by rw [decBl]; exact ok.bl⟩
  · rw [h1.str, h2.str]; exact .inl ⟨rfl, by rw [decStr]; exact ok.bl⟩
  · split at ok
    · rename_i hc
      simp only [Bool.and_eq_true] at hc
      exact .inr ⟨d.py, e.py, h1.dp (SeqAt.canLay_of_shaped hc.1), h2.dp (SeqAt.canLay_of_shaped hc.2), hc.1, hc.2, ok.bl⟩
    · exact ok.elim
def gCmp (p : Int → Int → Bool) : D → D → Option (Nat × D)
  | .int i, .int j => some (0, .bl (p i j))
  | _, _ => none
theorem opf_cmp (p : Int → Int → Bool) : OpF2 K (rI0 fun i j => .bl (p i j)) (gCmp p) := by
  intro H B d v e u Q h1 h2 ok
  unfold gCmp at ok
  split at ok
  · rw [h1.int, h2.int]; exact ⟨_, _, rfl, rfl, ok.bl⟩
  · exact ok.elim
def D.isNon : D → Bool
  | .non => true
  | _ => false
theorem Rp.isNon {H : Hp} {N : As} {d : D} {v : V} (h : Rp K H N 0 d v []) : decide (v = .non) = d.isNon := by
  cases d <;> simp only [Rp] at h
  · rw [h.1]; rfl
  · rw [h.1]; rfl
  · rw [h.1]; rfl
  · rw [h.1]; rfl
  · obtain ⟨a, vs, e, _⟩ := h; rw [e]; rfl
  · obtain ⟨a, vs, e, _⟩ := h; rw [e]; rfl
  · obtain ⟨a, vs, e, _⟩ := h; rw [e]; rfl
  · obtain ⟨a, e, _⟩ := h; rw [e]; rfl
  · obtain ⟨a, _, e, _⟩ := h; rw [e]; rfl
def gIs : D → D → Option (Nat × D)
  | d, .non => some (0, .bl d.isNon)
  | .bl a, .bl b => some (0, .bl (decide (a = b)))
  | _, _ => none
def rIsNv : R2 := fun x y H Q => y = .non ∧ Q (.bl (decide (x = .non))) H
def rNotNv : R2 := fun x y H Q => y = .non ∧ Q (.bl (!decide (x = .non))) H
def rIsAll : R2 := fun x y H Q => rIsNv x y H Q ∨ rIsB x y H Q
def rNotAll : R2 := fun x y H Q => rNotNv x y H Q ∨ rNotB x y H Q
theorem op_isAll {X : Cx} : OpR X (compareOp .Is) rIsAll := OpR.or op_isN op_isBl
theorem op_notAll {X : Cx} : OpR X (compareOp .IsNot) rNotAll := OpR.or op_notN op_notBl
theorem opf_is : OpF2 K rIsAll gIs := by
  intro H B d v e u Q h1 h2 ok
  unfold gIs at ok
  split at ok
  · rw [h2.non]; exact .inl ⟨rfl, by rw [h1.isNon]; exact ok.bl⟩
  · rw [h1.bl, h2.bl]; exact .inr ⟨_, _, rfl, rfl, ok.bl⟩
  · exact ok.elim
def gIsNot : D → D → Option (Nat × D)
  | d, .non => some (0, .bl (!d.isNon))
  | .bl a, .bl b => some (0, .bl (!decide (a = b)))
  | _, _ => none
theorem opf_isNot : OpF2 K rNotAll gIsNot := by
  intro H B d v e u Q h1 h2 ok
  unfold gIsNot at ok
  split at ok
  · rw [h2.non]; exact .inl ⟨rfl, by rw [h1.isNon]; exact ok.bl⟩
  · rw [h1.bl, h2.bl]; exact .inr ⟨_, _, rfl, rfl, ok.bl⟩
  · exact ok.elim
def eqA : D → D → Bool
  | .non, .non => true
  | .bl a, .bl b => a == b
  | .bl a, .int b => (if a then 1 else 0) == b
  | .int a, .bl b => a == (if b then 1 else 0)
  | .int a, .int b => a == b
  | .str a, .str b => a == b
  | _, _ => false
theorem Rp.flat {H : Hp} {N : As} {d : D} {v : V} (h : Rp K H N 0 d v []) (a : d.atom = true) : flatV v = true := by
  cases d <;> simp only [Rp] at h <;> first | (rw [h.1]; rfl) | cases a
theorem Rp.eqA {H : Hp} {N : As} {d e : D} {v u : V} (h : Rp K H N 0 d v []) (h' : Rp K H N 0 e u []) (a : d.atom = true) (a' : e.atom = true) : eqV v u = DL.eqA d e := by
  cases d <;> first | cases a | skip
  all_goals cases e <;> first | cases a' | skip
  all_goals simp only [Rp] at h h'; rw [h.1, h'.1]; rfl
theorem Rps.flats {H : Hp} {N : As} {d : D} {v : V} (h : Rp K H N 0 d v []) (a : d.atom = true) : ∀ {ds : List D} {vs : List V}, Rps K H N 0 ds vs [] → ds.all D.atom = true → vs.all flatV = true ∧ inV v vs = ds.any fun e => DL.eqA e d
  | [], vs, h, _ => by simp only [Rps] at h; rw [h.1]; exact ⟨rfl, rfl⟩
  | x :: ds, vs, h', c => by
    simp only [Rps] at h'; obtain ⟨w, vr, l1, l2, e', el, r1, r2⟩ := h'
    have z1 := r1.zero; have z2 := r2.zero
    subst z1 z2 e'
    simp only [List.all_cons, Bool.and_eq_true] at c
    obtain ⟨i1, i2⟩ := Rps.flats h a r2 c.2
    refine ⟨by simp only [List.all_cons, Bool.and_eq_true]; exact ⟨r1.flat c.1, i1⟩, ?_⟩
    show (eqV w v || inV v vr) = _
    rw [i2, r1.eqA h c.1 a]; rfl
def gIn : D → D → Option (Nat × D)
  | d, .lst ds => if d.atom && ds.all D.atom then some (0, .bl (ds.any fun e => eqA e d)) else none
  | d, .tup ds => if d.atom && ds.all D.atom then some (0, .bl (ds.any fun e => eqA e d)) else none
  | _, _ => none
def gNotIn : D → D → Option (Nat × D)
  | d, .lst ds => if d.atom && ds.all D.atom then some (0, .bl (!ds.any fun e => eqA e d)) else none
  | d, .tup ds => if d.atom && ds.all D.atom then some (0, .bl (!ds.any fun e => eqA e d)) else none
  | _, _ => none
theorem opf_in : OpF2 K (rIn K false) gIn := by
  intro H B d v e u Q h1 h2 ok
  unfold gIn at ok
  split at ok
  · split at ok
    · rename_i hc
      simp only [Bool.and_eq_true] at hc
      obtain ⟨a, vs, rfl, e1, r1⟩ := h2.lst
      obtain ⟨f1, f2⟩ := Rps.flats h1 hc.1 r1 hc.2
      exact ⟨a, vs, rfl, .inl (SqL.of e1), h1.flat hc.1, f1, by rw [f2]; exact ok.bl⟩
    · exact ok.elim
  · split at ok
    · rename_i hc
      simp only [Bool.and_eq_true] at hc
      obtain ⟨a, vs, rfl, e1, r1⟩ := h2.tup
      obtain ⟨f1, f2⟩ := Rps.flats h1 hc.1 r1 hc.2
      exact ⟨a, vs, rfl, .inr e1, h1.flat hc.1, f1, by rw [f2]; exact ok.bl⟩
    · exact ok.elim
  · exact ok.elim
theorem opf_notIn : OpF2 K (rIn K true) gNotIn := by
  intro H B d v e u Q h1 h2 ok
  unfold gNotIn at ok
  split at ok
  · split at ok
    · rename_i hc
      simp only [Bool.and_eq_true] at hc
      obtain ⟨a, vs, rfl, e1, r1⟩ := h2.lst
      obtain ⟨f1, f2⟩ := Rps.flats h1 hc.1 r1 hc.2
      exact ⟨a, vs, rfl, .inl (SqL.of e1), h1.flat hc.1, f1, by rw [f2]; exact ok.bl⟩
    · exact ok.elim
  · split at ok
    · rename_i hc
      simp only [Bool.and_eq_true] at hc
      obtain ⟨a, vs, rfl, e1, r1⟩ := h2.tup
      obtain ⟨f1, f2⟩ := Rps.flats h1 hc.1 r1 hc.2
      exact ⟨a, vs, rfl, .inr e1, h1.flat hc.1, f1, by rw [f2]; exact ok.bl⟩
    · exact ok.elim
  · exact ok.elim
def ixD (n : Nat) (i : Int) : Option Nat := ixN n i
def gIx : D → D → Option (Nat × D)
  | .lst ds, .int i => (atI ds i).map fun d => (0, d)
  | .tup ds, .int i => (atI ds i).map fun d => (0, d)
  | .str z, .int i => if z.length ≤ sizeLine then (atI z.cps.toList i).map fun c => (0, .str ⟨#[c]⟩) else none
  | .scr ns, .int i => (atI ns i).map fun n => (0, .int n)
  | _, _ => none
theorem atI_of {H : Hp} {N : As} {ds : List D} {vs : List V} {i : Int} {d : D} (r : Rps K H N 0 ds vs []) (h : atI ds i = some d) : ∃ v, atI vs i = some v ∧ Rp K H N 0 d v [] := by
  unfold atI at h ⊢
  rw [← r.len]
  cases e : ixN ds.length i with
  | none => rw [e] at h; cases h
  | some j => rw [e] at h; exact r.get h
theorem atI_map {α β : Type} (f : α → β) {xs : List α} {i : Int} {x : α} (h : atI xs i = some x) : atI (xs.map f) i = some (f x) := by
  unfold atI at h ⊢
  rw [List.length_map]
  cases e : ixN xs.length i with
  | none => rw [e] at h; cases h
  | some j =>
    rw [e] at h
    have h : xs[j]? = some x := h
    show (xs.map f)[j]? = some (f x)
    rw [List.getElem?_map, h]; rfl
theorem opf_ix : OpF2 K (rIx K) gIx := by
  intro H B d v e u Q h1 h2 ok
  unfold gIx at ok
  split at ok
  · rename_i ds i
    cases hx : atI ds i with
    | none => rw [hx] at ok; exact ok.elim
    | some d =>
      rw [hx] at ok
      obtain ⟨a, vs, rfl, e1, r1⟩ := h1.lst
      obtain ⟨w, hw, rw'⟩ := atI_of r1 hx
      rw [h2.int]
      exact .inl ⟨a, vs, i, w, rfl, rfl, SqL.of e1, hw, ROk.at ok rw'⟩
  · rename_i ds i
    cases hx : atI ds i with
    | none => rw [hx] at ok; exact ok.elim
    | some d =>
      rw [hx] at ok
      obtain ⟨a, vs, rfl, e1, r1⟩ := h1.tup
      obtain ⟨w, hw, rw'⟩ := atI_of r1 hx
      rw [h2.int]
      exact .inr (.inl ⟨a, vs, i, w, rfl, rfl, e1, hw, ROk.at ok rw'⟩)
  · rename_i z i
    split at ok
    · cases hx : atI z.cps.toList i with
      | none => rw [hx] at ok; exact ok.elim
      | some c =>
        rw [hx] at ok
        rw [h1.str, h2.int]
        exact .inr (.inr ⟨z, i, c, rfl, rfl, by assumption, hx, ROk.str ok⟩)
    · exact ok.elim
  · rename_i ns i
    cases hx : atI ns i with
    | none => rw [hx] at ok; exact ok.elim
    | some n =>
      rw [hx] at ok
      obtain ⟨a, rfl, e1⟩ := h1.scr
      rw [h2.int]
      exact .inl ⟨a, _, i, .int n, rfl, rfl, e1, atI_map _ hx, ROk.int ok⟩
  · exact ok.elim
end
end DL
namespace DL
open PySem PySem.Spec L2
open PyProof.Rows hiding St
section
variable {K : PySem.W.Frag}
def D.ints : List D → Option (List Int)
  | [] => some []
  | .int i :: r => (D.ints r).map (i :: ·)
  | _ :: _ => none
theorem Rps.ints {H : Hp} {N : As} : ∀ {ds : List D} {vs : List V} {ns : List Int}, Rps K H N 0 ds vs [] → D.ints ds = some ns → vs = ns.map V.int ∧ ds = ns.map D.int
  | [], vs, ns, h, e => by
    simp only [Rps] at h
    obtain rfl : [] = ns := by simpa [D.ints] using e
    exact ⟨h.1, rfl⟩
  | d :: ds, vs, ns, h, e => by
    simp only [Rps] at h; obtain ⟨v, vr, l1, l2, e', el, r1, r2⟩ := h
    have z1 := r1.zero; have z2 := r2.zero
    subst z1 z2 e'
    cases d with
    | int i =>
      simp only [D.ints, Option.map_eq_some_iff] at e
      obtain ⟨ms, h1, rfl⟩ := e
      obtain ⟨i1, i2⟩ := Rps.ints r2 h1
      rw [i1, i2, r1.int]; exact ⟨rfl, rfl⟩
    | _ => simp [D.ints] at e
theorem Rps.ofInts {H : Hp} {N : As} : ∀ ns : List Int, Rps K H N 0 (ns.map D.int) (ns.map V.int) []
  | [] => by simp [Rps]
  | n :: ns => by simp only [List.map_cons, Rps]; exact ⟨_, _, [], [], rfl, rfl, by simp [Rp], Rps.ofInts ns⟩
def gLen : List D → Option (Nat × D)
  | [.lst ds] => some (0, .int ds.length)
  | [.tup ds] => some (0, .int ds.length)
  | [.scr ns] => some (0, .int ns.length)
  | [.str z] => if z.length ≤ sizeLine then some (0, .int z.length) else none
  | _ => none
theorem opf_len : OpFN K (fun xs H Q => ∃ x n, xs = [x] ∧ LenV K x H n ∧ Q (.int n) H) gLen := by
  intro H B ds vs Q h ok
  unfold gLen at ok
  split at ok
  · obtain ⟨v, rfl, r⟩ := h.one
    obtain ⟨a, us, rfl, e, r⟩ := r.lst
    exact ⟨_, _, rfl, .inl ⟨us, SqL.of e, rfl⟩, by rw [← r.len]; exact ok.int⟩
  · obtain ⟨v, rfl, r⟩ := h.one
    obtain ⟨a, us, rfl, e, r⟩ := r.tup
    exact ⟨_, _, rfl, .inr ⟨us, e, rfl⟩, by rw [← r.len]; exact ok.int⟩
  · obtain ⟨v, rfl, r⟩ := h.one
    obtain ⟨a, rfl, e⟩ := r.scr
    exact ⟨_, _, rfl, .inl ⟨_, e, rfl⟩, by rw [List.length_map]; exact ok.int⟩
  · split at ok
    · obtain ⟨v, rfl, r⟩ := h.one
      rw [r.str]
      exact ⟨_, _, rfl, ⟨by assumption, rfl⟩, ok.int⟩
    · exact ok.elim
  · exact ok.elim
def gAbs : List D → Option (Nat × D)
  | [.int i] => some (0, .int (if i < 0 then -i else i))
  | _ => none
theorem opf_abs : OpFN K (fun xs H Q => ∃ i, xs = [.int i] ∧ Q (.int (if i < 0 then -i else i)) H) gAbs := by
  intro H B ds vs Q h ok
  unfold gAbs at ok
  split at ok
  · obtain ⟨v, rfl, r⟩ := h.one; rw [r.int]; exact ⟨_, rfl, ok.int⟩
  · exact ok.elim
def maxI : Int → List Int → Int
  | m, [] => m
  | m, n :: r => maxI (if n > m then n else m) r
def minI : Int → List Int → Int
  | m, [] => m
  | m, n :: r => minI (if n < m then n else m) r
theorem maxI_spec : ∀ (m : Int) (ns : List Int), maxI m ns ∈ m :: ns ∧ ∀ y ∈ m :: ns, y ≤ maxI m ns
  | m, [] => ⟨List.mem_cons_self, fun y hy => by have : y = m := by simpa using hy
                                                 subst this; exact Int.le_refl _⟩
  | m, n :: r => by
    obtain ⟨h1, h2⟩ := maxI_spec (if n > m then n else m) r
    unfold maxI
    refine ⟨?_, fun y hy => ?_⟩
    · rcases List.mem_cons.mp h1 with h | h
      · rw [h]; split <;> simp
      · exact List.mem_cons_of_mem _ (List.mem_cons_of_mem _ h)
    · have h3 := h2 _ List.mem_cons_self
      rcases List.mem_cons.mp hy with e | hy
      · rw [e]; refine Int.le_trans ?_ h3; split <;> omega
      · rcases List.mem_cons.mp hy with e | hy
        · rw [e]; refine Int.le_trans ?_ h3; split <;> omega
        · exact h2 y (List.mem_cons_of_mem _ hy)
theorem minI_spec : ∀ (m : Int) (ns : List Int), minI m ns ∈ m :: ns ∧ ∀ y ∈ m :: ns, minI m ns ≤ y
  | m, [] => ⟨List.mem_cons_self, fun y hy => by have : y = m := by simpa using hy
                                                 subst this; exact Int.le_refl _⟩
  | m, n :: r => by
    obtain ⟨h1, h2⟩ := minI_spec (if n < m then n else m) r
    unfold minI
    refine ⟨?_, fun y hy => ?_⟩
    · rcases List.mem_cons.mp h1 with h | h
      · rw [h]; split <;> simp
      · exact List.mem_cons_of_mem _ (List.mem_cons_of_mem _ h)
    · have h3 := h2 _ List.mem_cons_self
      rcases List.mem_cons.mp hy with e | hy
      · rw [e]; refine Int.le_trans h3 ?_; split <;> omega
      · rcases List.mem_cons.mp hy with e | hy
        · rw [e]; refine Int.le_trans h3 ?_; split <;> omega
        · exact h2 y (List.mem_cons_of_mem _ hy)
def gMax : List D → Option (Nat × D)
  | [.int i, .int j] => some (0, .int (if j > i then j else i))
  | [.lst ds] => match D.ints ds with
    | some (n :: ns) => some (0, .int (maxI n ns))
    | _ => none
  | _ => none
def gMin : List D → Option (Nat × D)
  | [.int i, .int j] => some (0, .int (if j < i then j else i))
  | [.lst ds] => match D.ints ds with
    | some (n :: ns) => some (0, .int (minI n ns))
    | _ => none
  | _ => none
def rMax2 (xs : List V) (H : Hp) (Q : VK) : Prop := ∃ i j, xs = [.int i, .int j] ∧ Q (.int (if j > i then j else i)) H
def rMin2 (xs : List V) (H : Hp) (Q : VK) : Prop := ∃ i j, xs = [.int i, .int j] ∧ Q (.int (if j < i then j else i)) H
theorem opf_max : OpFN K (fun xs H Q => rMax2 xs H Q ∨ rMax K xs H Q) gMax := by
  intro H B ds vs Q h ok
  unfold gMax at ok
  split at ok
  · obtain ⟨v, u, rfl, r1, r2⟩ := h.two; rw [r1.int, r2.int]; exact .inl ⟨_, _, rfl, ok.int⟩
  · split at ok
    · rename_i n ns e
      obtain ⟨v, rfl, r⟩ := h.one
      obtain ⟨a, us, rfl, ea, r⟩ := r.lst
      obtain ⟨e1, e2⟩ := r.ints e
      subst e1
      obtain ⟨s1, s2⟩ := maxI_spec n ns
      refine .inr ⟨a, n :: ns, rfl, SqL.of ea, by simp, fun m hm hle => ?_⟩
      have : m = maxI n ns := Int.le_antisymm (s2 m hm) (hle _ s1)
      rw [this]; exact ok.int
    · exact ok.elim
  · exact ok.elim
theorem opf_min : OpFN K (fun xs H Q => rMin2 xs H Q ∨ rMin K xs H Q) gMin := by
  intro H B ds vs Q h ok
  unfold gMin at ok
  split at ok
  · obtain ⟨v, u, rfl, r1, r2⟩ := h.two; rw [r1.int, r2.int]; exact .inl ⟨_, _, rfl, ok.int⟩
  · split at ok
    · rename_i n ns e
      obtain ⟨v, rfl, r⟩ := h.one
      obtain ⟨a, us, rfl, ea, r⟩ := r.lst
      obtain ⟨e1, e2⟩ := r.ints e
      subst e1
      obtain ⟨s1, s2⟩ := minI_spec n ns
      refine .inr ⟨a, n :: ns, rfl, SqL.of ea, by simp, fun m hm hle => ?_⟩
      have : m = minI n ns := Int.le_antisymm (hle _ s1) (s2 m hm)
      rw [this]; exact ok.int
    · exact ok.elim
  · exact ok.elim
def gSum : List D → Option (Nat × D)
  | [.lst ds] => match D.ints ds with
    | some ns => some (0, .int ns.sum)
    | none => none
  | _ => none
theorem opf_sum : OpFN K (rSum K) gSum := by
  intro H B ds vs Q h ok
  unfold gSum at ok
  split at ok
  · split at ok
    · rename_i ns e
      obtain ⟨v, rfl, r⟩ := h.one
      obtain ⟨a, us, rfl, ea, r⟩ := r.lst
      obtain ⟨e1, e2⟩ := r.ints e
      subst e1
      exact ⟨a, ns, rfl, SqL.of ea, ok.int⟩
    · exact ok.elim
  · exact ok.elim
def sortI (ns : List Int) : List Int := ns.mergeSort (fun a b => decide (a ≤ b))
theorem sortI_perm (ns : List Int) : (sortI ns).Perm ns := List.mergeSort_perm _ _
theorem sortI_sorted (ns : List Int) : (sortI ns).Pairwise (· ≤ ·) := by
  have := List.pairwise_mergeSort (le := fun (a b : Int) => decide (a ≤ b)) (fun a b c h1 h2 => by simp at *; omega) (fun a b => by simp; omega) ns
  exact this.imp fun h => by simpa using h
theorem sortI_uniq {ns ms : List Int} (p : ms.Perm ns) (s : ms.Pairwise (· ≤ ·)) : ms = sortI ns := PySem.W.ksm_same (p.trans (sortI_perm ns).symm) s (sortI_sorted ns)
def gSorted : List D → Option (Nat × D)
  | [.lst ds] => match D.ints ds with
    | some ns => some (1, .lst ((sortI ns).map .int))
    | none => none
  | _ => none
theorem opf_sorted : OpFN K (rSortedI K) gSorted := by
  intro H B ds vs Q h ok
  unfold gSorted at ok
  split at ok
  · split at ok
    · rename_i ns e
      obtain ⟨v, rfl, r⟩ := h.one
      obtain ⟨a, us, rfl, ea, r⟩ := r.lst
      obtain ⟨e1, e2⟩ := r.ints e
      subst e1
      refine ⟨a, ns, rfl, SqL.of ea, fun ns' p pm so hp => ?_⟩
      rw [sortI_uniq pm so]
      exact ok.lst (Rps.ofInts _) p hp
    · exact ok.elim
  · exact ok.elim
def gList : List D → Option (Nat × D)
  | [.lst ds] => some (1, .lst ds)
  | [.tup ds] => some (1, .lst ds)
  | _ => none
theorem opf_list : OpFN K (fun xs H Q => ∃ p ys, xs = [.ref p] ∧ (SqL K H p ys ∨ SqT K H p ys) ∧ ∀ l, H l = none → Q (.ref l) (upd H l (.lst ys))) gList := by
  intro H B ds vs Q h ok
  unfold gList at ok
  split at ok
  · obtain ⟨v, rfl, r⟩ := h.one
    obtain ⟨a, us, rfl, ea, r⟩ := r.lst
    exact ⟨a, us, rfl, .inl (SqL.of ea), ok.lst r⟩
  · obtain ⟨v, rfl, r⟩ := h.one
    obtain ⟨a, us, rfl, ea, r⟩ := r.tup
    exact ⟨a, us, rfl, .inr ea, ok.lst r⟩
  · exact ok.elim
def gTuple : List D → Option (Nat × D)
  | [.lst ds] => some (0, .tup ds)
  | [.tup ds] => some (0, .tup ds)
  | _ => none
theorem opf_tuple : OpFN K (fun xs H Q => ∃ p ys, xs = [.ref p] ∧ ((SqL K H p ys ∧ ∀ l, H l = none → Q (.ref l) (upd H l (.tup ys))) ∨ (SqT K H p ys ∧ Q (.ref p) H))) gTuple := by
  intro H B ds vs Q h ok
  unfold gTuple at ok
  split at ok
  · obtain ⟨v, rfl, r⟩ := h.one
    obtain ⟨a, us, rfl, ea, r⟩ := r.lst
    exact ⟨a, us, rfl, .inl ⟨SqL.of ea, ok.tup r⟩⟩
  · obtain ⟨v, rfl, r⟩ := h.one
    have r0 := r
    obtain ⟨a, us, rfl, ea, r⟩ := r.tup
    exact ⟨a, us, rfl, .inr ⟨ea, ok.at r0⟩⟩
  · exact ok.elim
def gInt : List D → Option (Nat × D)
  | [.int i] => some (0, .int i)
  | [.bl b] => some (0, .int (if b then 1 else 0))
  | _ => none
theorem opf_int : OpFN K (fun xs H Q => (∃ i, xs = [.int i] ∧ Q (.int i) H) ∨ ∃ k, xs = [.bl k] ∧ Q (.int (if k then 1 else 0)) H) gInt := by
  intro H B ds vs Q h ok
  unfold gInt at ok
  split at ok
  · obtain ⟨v, rfl, r⟩ := h.one; rw [r.int]; exact .inl ⟨_, rfl, ok.int⟩
  · obtain ⟨v, rfl, r⟩ := h.one; rw [r.bl]; exact .inr ⟨_, rfl, ok.int⟩
  · exact ok.elim
def gStr : List D → Option (Nat × D)
  | [.int i] => if i.natAbs.log2 < 1920 then some (0, .str (toString i)) else none
  | _ => none
theorem opf_str : OpFN K (fun xs H Q => ∃ i, xs = [.int i] ∧ i.natAbs.log2 < 1920 ∧ Q (.str (toString i)) H) gStr := by
  intro H B ds vs Q h ok
  unfold gStr at ok
  split at ok
  · split at ok
    · obtain ⟨v, rfl, r⟩ := h.one; rw [r.int]; exact ⟨_, rfl, by assumption, ok.str⟩
    · exact ok.elim
  · exact ok.elim
def D.tyN : D → String
  | .non => "NoneType" | .bl _ => "bool" | .int _ => "int" | .str _ => "str" | .tup _ => "tuple" | .lst _ => "list" | .dct _ _ => "dict" | .scr _ => "list" | .exn _ _ _ => "NoneType"
def D.isX : D → Bool
  | .exn _ _ _ => true
  | _ => false
def isB (a b : String) : Bool := a == b || (a == "bool" && b == "int")
def okTy (t : String) : Bool := ["NoneType", "bool", "int", "str", "tuple", "list", "dict"].all fun a => kitB a t == some (isB a t)
def gIsi (t : String) (d : D) : Option (Nat × D) := if d.isX then none else some (0, .bl (isB d.tyN t))
theorem okTy_of {t : String} (h : okTy t = true) (d : D) : kitB d.tyN t = some (isB d.tyN t) := by
  unfold okTy at h
  rw [List.all_eq_true] at h
  have := h d.tyN (by cases d <;> simp [D.tyN])
  simpa using this
theorem Rp.ty {H : Hp} {N : As} {d : D} {v : V} (h : Rp K H N 0 d v []) (hx : d.isX = false) : TyX K H v (.type d.tyN) := by
  cases d <;> simp only [Rp] at h
  · rw [h.1]; exact .base .non
  · rw [h.1]; exact .base (.bl _)
  · rw [h.1]; exact .base (.int _)
  · rw [h.1]; exact .base (.str _)
  · obtain ⟨a, vs, e, s, _⟩ := h; rw [e]
    rcases s with (s | ⟨o, s⟩) | ⟨o, its, n, s, c, _⟩
    · exact .base (.tup s)
    · exact .fTuple s
    · exact .kTuple s c
  · obtain ⟨a, vs, e, s, _⟩ := h; rw [e]; exact .base (.lst s.1)
  · obtain ⟨a, vs, e, _, s, _⟩ := h; rw [e]; exact .base (.dK s.1)
  · obtain ⟨a, e, s, _⟩ := h; rw [e]
    rcases s with ⟨o, s⟩ | ⟨o, its, n, s, c, _⟩
    · exact .base (.frz s)
    · exact .kList s c
  · cases hx
theorem opf_isi {t : String} (ht : okTy t = true) : OpF1 K (fun v H Q => rIsi K [v, .ty t] H Q) (gIsi t) := by
  intro H B d v Q h ok
  unfold gIsi at ok
  split at ok
  · exact ok.elim
  · rename_i hx
    exact ⟨v, .ty t, .type d.tyN, .type t, isB d.tyN t, rfl, .ty t, h.ty (by simpa using hx), kit_ty (okTy_of ht d), ok.bl⟩
def cutA {α : Type} (xs : List α) (lo hi : Option Int) : List α := (xs.drop (HT.sIx xs.length 0 lo)).take (HT.sIx xs.length xs.length hi - HT.sIx xs.length 0 lo)
def gSl : D → Option Int → Option Int → Option (Nat × D)
  | .lst ds, lo, hi => some (1, .lst (cutA ds lo hi))
  | .tup ds, lo, hi => if HT.sIx ds.length 0 lo = 0 ∧ HT.sIx ds.length ds.length hi = ds.length then none else some (0, .tup (cutA ds lo hi))
  | .str z, lo, hi => if z.length ≤ sizeLine then some (0, .str (cutS z lo hi)) else none
  | .scr ns, lo, hi => some (1, .lst (cutA (ns.map .int) lo hi))
  | _, _, _ => none
theorem rps_ints {H : Hp} {N : As} : ∀ ns : List Int, Rps K H N 0 (ns.map .int) (ns.map V.int) []
  | [] => by simp [Rps]
  | n :: ns => by
    show Rps K H N 0 (.int n :: ns.map .int) (V.int n :: ns.map V.int) []
    simp only [Rps]
    exact ⟨V.int n, ns.map V.int, [], [], rfl, rfl, by simp [Rp], rps_ints ns⟩
def rSlAll (K : PySem.W.Frag) : V → Option Int → Option Int → Hp → VK → Prop := fun x lo hi H Q => rSlL K x lo hi H Q ∨ (rSlT K x lo hi H Q ∨ rSlS x lo hi H Q)
theorem sl_all {X : Cx} : SlR X (rSlAll X.K) := SlR.or sl_list (SlR.or sl_tup sl_str)
theorem Rps.cut {H : Hp} {N : As} {ds : List D} {vs : List V} (h : Rps K H N 0 ds vs []) (lo hi : Option Int) : Rps K H N 0 (cutA ds lo hi) (cutV vs lo hi) [] := by
  unfold cutA cutV
  rw [h.len]
  exact (h.drop _).take _
theorem opf_sl {H : Hp} {B : As} {d : D} {v : V} {lo hi : Option Int} {Q : VK} (h : Rp K H B 0 d v []) (ok : ROk K H B Q (gSl d lo hi)) : rSlAll K v lo hi H Q := by
  unfold gSl at ok
  split at ok
  · obtain ⟨a, us, rfl, ea, r⟩ := h.lst
    exact .inl ⟨a, us, rfl, SqL.of ea, ok.lst (r.cut _ _)⟩
  · split at ok
    · exact ok.elim
    · rename_i hc
      obtain ⟨a, us, rfl, ea, r⟩ := h.tup
      exact .inr (.inl ⟨a, us, rfl, ea, by rw [← r.len]; exact hc, ok.tup (r.cut _ _)⟩)
  · split at ok
    · rw [h.str]; exact .inr (.inr ⟨_, rfl, by assumption, ok.str⟩)
    · exact ok.elim
  · simp only [Rp] at h
    obtain ⟨a, rfl, s, _⟩ := h
    exact .inl ⟨a, _, rfl, s.sq, ok.lst ((rps_ints _).cut _ _)⟩
  · exact ok.elim
end
inductive ORes where
  | ok (o : Option Int) (δ : Env) | exc (x : XD) (δ : Env) | bad
def OOk (X : Cx) (W : WX) (σ : L2.St) (H : Hp) (L R : As) (Q : Option Int → Hp → Prop) : ORes → Prop
  | .ok o δ' => ∀ H' L', Kp H H' L → Nw H L L' → SR X.K σ H' δ' L' R → Q o H'
  | .exc x δ' => XOk X W σ H L R x δ'
  | .bad => False
structure DO (X : Cx) (W : WX) (e : Option Expr) (f : Env → ORes) : Prop where
  ex : ∃ t, PO X e t ∧ ∀ σ H δ L R Q, SR X.K σ H δ L R → OOk X W σ H L R Q (f δ) → t σ H Q
def oNone : Env → ORes := fun δ => .ok none δ
def oSome (f : EV) : Env → ORes := fun δ => match f δ with
  | .ok _ (.int i) δ' => .ok (some i) δ'
  | .exc x δ' => .exc x δ'
  | _ => .bad
section
variable {X : Cx} {W : WX} {e e' a b : Expr} {f fa fb : EV}
theorem do_none : DO X W none oNone := ⟨tNoPart, po_none, fun σ H δ L R Q s ok => ok H L s.kp Nw.refl s⟩
theorem do_some (h : DE X W e f) : DO X W (some e) (oSome f) := by
  obtain ⟨t, p, q⟩ := h.ex
  refine ⟨tPart t, po_some p, fun σ H δ L R Q s ok => q σ H δ L R _ s ?_⟩
  unfold oSome at ok
  split at ok
  · rename_i m i δ1 hf
    rw [hf]
    intro v H1 l L1 k w s1 rp
    exact ⟨i, rp.int, ok H1 L1 k w.right (s1.less (List.sublist_append_right _ _))⟩
  · rename_i x δ1 hf; rw [hf]; exact ok
  · exact ok.elim
def eSl (f : EV) (fl fh : Env → ORes) : EV := fun δ => match f δ with
  | .ok _ d δ1 => (match fl δ1 with
    | .ok lo δ2 => (match fh δ2 with
      | .ok hi δ3 => toRes δ3 (gSl d lo hi)
      | .exc x δ' => .exc x δ'
      | .bad => .bad)
    | .exc x δ' => .exc x δ'
    | .bad => .bad)
  | r => r
theorem de_sl {lo hi : Option Expr} {fl fh : Env → ORes} {p2 pos : Pos} (h : DE X W e f) (hl : DO X W lo fl) (hh : DO X W hi fh) : DE X W (.Subscript e (.Slice lo hi none p2) pos) (eSl f fl fh) := by
  obtain ⟨t, p, q⟩ := h.ex
  obtain ⟨tl, pl, ql⟩ := hl.ex
  obtain ⟨th, ph, qh⟩ := hh.ex
  refine ⟨tSl (rSlAll X.K) t tl th, pe_slice sl_all p pl ph, fun σ H δ L R Q s ok => q σ H δ L R _ s ?_⟩
  unfold eSl at ok
  cases hf : f δ with
  | bad => rw [hf] at ok; exact ok
  | exc x δ1 => rw [hf] at ok; exact ok
  | ok m d δ1 =>
    rw [hf] at ok
    simp only at ok
    intro v H1 l L1 k w s1 rp
    refine ql σ H1 δ1 L1 (l ++ R) _ s1 ?_
    cases e1 : fl δ1 with
    | bad => rw [e1] at ok; exact ok
    | exc x δ' => rw [e1] at ok; exact XOk.more k w ok
    | ok o1 δ2 =>
      rw [e1] at ok
      simp only at ok
      intro H2 L2 k2 w2 s2
      refine qh σ H2 δ2 L2 (l ++ R) _ s2 ?_
      have w12 : Nw H L (l ++ L2) := Nw.both w.left (Nw.trans k w.right w2)
      cases e2 : fh δ2 with
      | bad => rw [e2] at ok; exact ok
      | exc x δ' => rw [e2] at ok; exact XOk.more (k.trans w.right k2) w12 ok
      | ok o2 δ3 =>
        rw [e2] at ok
        intro H3 L3 k3 w3 s3
        have z1 := tmp_step (l2 := []) s1 k2 w2
        have r2 := rp.step k2 (fun a ha => List.mem_append_left _ ha) (by simpa using z1.2) z1.1
        have z2 := tmp_step (l2 := []) s2 k3 w3
        have r3 := r2.step k3 (fun a ha => List.mem_append_left _ ha) (by simpa using z2.2) z2.1
        obtain ⟨y1, y2⟩ := fz_at s3
        exact opf_sl (r3.fz y1 y2) (fin_new ((k.trans w.right k2).trans (Nw.trans k w.right w2) k3) (Nw.both w.left (Nw.trans (k.trans w.right k2) (Nw.trans k w.right w2) w3)) s3 ok)
def dispM (ps : List (Nat × D)) : Nat := match ps.find? (fun p => !p.2.atom) with
  | none => 0
  | some p => if ps.all (fun q => q.2.atom || q.1 == p.1) then p.1 else 0
theorem atom_any {K : PySem.W.Frag} {H : Hp} {N : As} {m k : Nat} {d : D} {v : V} {l : As} (a : d.atom = true) (h : Rp K H N m d v l) : Rp K H N k d v l := by
  cases d <;> first | (simp only [Rp] at h ⊢; exact h) | cases a
theorem RpL.same {K : PySem.W.Frag} {H : Hp} {N : As} {k : Nat} : ∀ {ps : List (Nat × D)} {vs : List V} {l : As}, (∀ p ∈ ps, p.2.atom = true ∨ p.1 = k) → RpL K H N ps vs l → Rps K H N k (ps.map (·.2)) vs l
  | [], _, _, _, h => by simpa [Rps, RpL] using h
  | p :: ps, _, _, c, h => by
    obtain ⟨v, vr, l1, l2, h1, h2, h3, h4⟩ := h
    show Rps K H N k (p.2 :: ps.map (·.2)) _ _
    simp only [Rps]
    refine ⟨v, vr, l1, l2, h1, h2, ?_, RpL.same (fun q hq => c q (List.mem_cons_of_mem _ hq)) h4⟩
    rcases c p List.mem_cons_self with a | a
    · exact atom_any a h3
    · rw [← a]; exact h3
theorem disp_of {K : PySem.W.Frag} {H : Hp} {N B l : As} {ps : List (Nat × D)} {vs : List V} (h : RpL K H N ps vs l) (hN : ∀ a, a ∈ N ↔ a ∈ l ∨ a ∈ B) (hd : ∀ a ∈ l, a ∉ B) :
    ∃ l', l'.Sublist l ∧ Rps K H (l' ++ B) (dispM ps) (ps.map (·.2)) vs l' := by
  have fz : ∃ l', l'.Sublist l ∧ Rps K H (l' ++ B) 0 (ps.map (·.2)) vs l' := ⟨[], List.nil_sublist _, h.fz hd fun a ha => (hN a).mpr (.inr ha)⟩
  unfold dispM
  split
  · exact fz
  · rename_i p hp
    split
    · rename_i hc
      refine ⟨l, List.Sublist.refl _, (RpL.same (fun q hq => ?_) h).sub fun a ha => (hN a).mpr (List.mem_append.mp ha)⟩
      have := List.all_eq_true.mp hc q hq
      simpa using this
    · exact fz
def eTup (fs : Env → ARes) : EV := fun δ => match fs δ with
  | .ok ps δ' => if ps.length ≤ sizeLine then .ok (dispM ps) (.tup (ps.map (·.2))) δ' else .bad
  | .exc x δ' => .exc x δ'
  | .bad => .bad
def eLst (fs : Env → ARes) : EV := fun δ => match fs δ with
  | .ok ps δ' => if ps.length ≤ sizeLine then .ok (dispM ps + 1) (.lst (ps.map (·.2))) δ' else .bad
  | .exc x δ' => .exc x δ'
  | .bad => .bad
theorem RpL.len {K : PySem.W.Frag} {H : Hp} {N : As} : ∀ {ps : List (Nat × D)} {vs : List V} {l : As}, RpL K H N ps vs l → vs.length = ps.length
  | [], _, _, h => by rw [h.1]; rfl
  | p :: ps, _, _, h => by
    obtain ⟨v, vr, l1, l2, h1, h2, h3, h4⟩ := h
    rw [h1]; simp [RpL.len h4]
theorem mem3 {a : Addr} {A B C : As} : a ∈ A ++ (B ++ C) ↔ a ∈ B ∨ a ∈ A ++ C := by simp only [List.mem_append]; constructor <;> (intro h; rcases h with h | h | h <;> simp [h])
theorem de_tup {es : List Expr} {fs : Env → ARes} {k : Nat} {pos : Pos} (h : DA X W es fs) : DE X W (.Tuple es k pos) (eTup fs) := by
  obtain ⟨t, p, q⟩ := h.ex
  refine ⟨tTup t, pe_tup p, fun σ H δ L R Q s ok => q σ H δ L R _ s ?_⟩
  unfold eTup at ok
  cases hf : fs δ with
  | bad => rw [hf] at ok; exact ok
  | exc x δ1 => rw [hf] at ok; exact ok
  | ok ps δ1 =>
    rw [hf] at ok
    simp only at ok
    split at ok
    · rename_i hlen
      intro vs H1 l L1 k1 w s1 rp
      refine ⟨by rw [rp.len]; exact hlen, fun p hp => ?_⟩
      obtain ⟨y1, y2⟩ := fz_at s1
      obtain ⟨l', sb, r⟩ := disp_of (B := L1 ++ R) rp (fun a => mem3) y1
      have sub : (l' ++ R).Sublist (l ++ R) := List.Sublist.append sb (List.Sublist.refl _)
      have s2 := s1.less sub
      have io : ∀ {a}, IsOwn H1 a → IsOwn (upd H1 p (.tup vs)) a := fun {a} q => q.imp (fun ⟨x, e⟩ => ⟨x, upd_ext hp _ _ e⟩) fun ⟨x, e⟩ => ⟨x, upd_ext hp _ _ e⟩
      have s3 : SR X.K σ (upd H1 p (.tup vs)) δ1 L1 (l' ++ R) := s2.step (kp_upd hp) (fun _ z => by cases z) s2.nd (fun a ha => .inl ha) fun a ha => io (s2.tr a ha)
      refine ok (.ref p) _ l' L1 ⟨fun a o e n => upd_ext hp _ _ (k1.kp a o e n), k1.ow⟩ (Nw.both (fun a ha => w.left a (sb.subset ha)) w.right) s3 ?_
      simp only [Rp]
      exact ⟨p, vs, rfl, TpA.of upd_same _, (r.new hp).sub fun a ha => List.mem_cons_of_mem _ (by have := mem3.mp ha; exact List.mem_append.mpr this)⟩
    · exact ok.elim
theorem de_lst {es : List Expr} {fs : Env → ARes} {pos : Pos} (h : DA X W es fs) : DE X W (.List es pos) (eLst fs) := by
  obtain ⟨t, p, q⟩ := h.ex
  refine ⟨tLst t, pe_lst p, fun σ H δ L R Q s ok => q σ H δ L R _ s ?_⟩
  unfold eLst at ok
  cases hf : fs δ with
  | bad => rw [hf] at ok; exact ok
  | exc x δ1 => rw [hf] at ok; exact ok
  | ok ps δ1 =>
    rw [hf] at ok
    simp only at ok
    split at ok
    · rename_i hlen
      intro vs H1 l L1 k1 w s1 rp
      refine ⟨by rw [rp.len]; exact hlen, fun p hp => ?_⟩
      obtain ⟨y1, y2⟩ := fz_at s1
      obtain ⟨l', sb, r⟩ := disp_of (B := L1 ++ R) rp (fun a => mem3) y1
      have sub : (l' ++ R).Sublist (l ++ R) := List.Sublist.append sb (List.Sublist.refl _)
      have s2 := s1.less sub
      have io : ∀ {a}, IsOwn H1 a → IsOwn (upd H1 p (.lst vs)) a := fun {a} q => q.imp (fun ⟨x, e⟩ => ⟨x, upd_ext hp _ _ e⟩) fun ⟨x, e⟩ => ⟨x, upd_ext hp _ _ e⟩
      have pn : p ∉ L1 ++ (l' ++ R) := fun z => by
        have : IsOwn H1 p := (List.mem_append.mp z).elim (s2.own p) (s2.tr p)
        exact this.ne hp
      have pm : (p :: (L1 ++ (l' ++ R))).Perm (L1 ++ (p :: l' ++ R)) := by
        show (p :: (L1 ++ (l' ++ R))).Perm (L1 ++ p :: (l' ++ R))
        exact List.perm_middle.symm
      have s3 : SR X.K σ (upd H1 p (.lst vs)) δ1 L1 (p :: l' ++ R) := s2.step (kp_upd hp) (fun _ z => by cases z) (pm.nodup_iff.mp (List.nodup_cons.mpr ⟨pn, s2.nd⟩)) (fun a ha => by
          rcases List.mem_cons.mp ha with rfl | ha
          · exact .inr hp
          · exact .inl ha) fun a ha => by
          rcases List.mem_cons.mp ha with rfl | ha
          · exact .inl ⟨_, upd_same⟩
          · exact io (s2.tr a ha)
      refine ok (.ref p) _ (p :: l') L1 ⟨fun a o e n => upd_ext hp _ _ (k1.kp a o e n), k1.ow⟩ (Nw.both (fun a ha => ?_) w.right) s3 ?_
      · rcases List.mem_cons.mp ha with rfl | ha
        · exact Nw.trans k1 w.right (fun b hb => .inr (by have : b = a := by simpa using hb
                                                          subst this; exact hp)) a (show a ∈ [a] by simp)
        · exact w.left a (sb.subset ha)
      · simp only [Rp]
        exact ⟨p, vs, l', rfl, upd_same, rfl, (r.new hp).sub fun a ha => by
          have := pm.mem_iff.mpr ha
          rcases List.mem_cons.mp this with z | z
          · exact List.mem_cons.mpr (.inl z)
          · exact List.mem_cons_of_mem _ (List.mem_append.mpr (mem3.mp z))⟩
    · exact ok.elim
end
end DL
namespace DL
open PySem PySem.Spec L2
open PyProof.Rows hiding St
def SimE (X : Cx) (W : WX) (t : TE) (f : EV) : Prop := ∀ σ H δ L R Q, SR X.K σ H δ L R → EOk X W σ H L R Q (f δ) → t σ H Q
def SimT (X : Cx) (W : WX) (t : TT) (f : Env → TRes) : Prop := ∀ σ H δ L R Q, SR X.K σ H δ L R → TOk X W σ H L R Q (f δ) → t σ H Q
section
variable {X : Cx} {W : WX} {e e' a b c : Expr} {f fa fb fc : EV}
theorem de_2t {r : R2} {g : D → D → Option (Nat × D)} (hr : OpF2 X.K r g) (ha : DE X W a fa) (hb : DE X W b fb) : ∃ ta tb, PE X a ta ∧ PE X b tb ∧ SimE X W (tOp r ta tb) (e2 g fa fb) := by
  obtain ⟨ta, pa, qa⟩ := ha.ex
  obtain ⟨tb, pb, qb⟩ := hb.ex
  refine ⟨ta, tb, pa, pb, fun σ H δ L R Q s ok => ?_⟩
  unfold e2 at ok
  refine two_of qa qb s (fun x δ' e1 => by rw [e1] at ok; exact ok) (fun e1 => by rw [e1] at ok; exact ok) fun m d δ1 e1 => ?_
  rw [e1] at ok
  simp only at ok
  refine ⟨fun e2 => by rw [e2] at ok; exact ok, fun x δ' e2 => by rw [e2] at ok; exact ok, fun n e δ2 e2 v u H2 l1 l2 L2 k w s2 r1 r2 => ?_⟩
  rw [e2] at ok
  simp only at ok
  obtain ⟨z1, z2⟩ := fz_at s2
  exact hr H2 (L2 ++ R) d v e u Q (r1.fz (fun a ha => z1 a (List.mem_append_right _ ha)) z2) (r2.fz (fun a ha => z1 a (List.mem_append_left _ ha)) z2) (fin_new k w s2 ok)
def tT (f : EV) : Env → TRes := fun δ => match f δ with
  | .ok _ (.bl b) δ' => .ok b δ'
  | .exc x δ' => .exc x δ'
  | _ => .bad
theorem sim_test {t : TE} (h : SimE X W t f) : SimT X W (tTest t) (tT f) := by
  intro σ H δ L R Q s ok
  refine h σ H δ L R _ s ?_
  unfold tT at ok
  split at ok
  · rename_i m k δ1 hf
    rw [hf]
    intro v H1 l L1 kk w s1 rp
    exact ⟨k, rp.bl, ok H1 L1 kk w.right (s1.less (List.sublist_append_right _ _))⟩
  · rename_i x δ1 hf; rw [hf]; exact ok
  · exact ok.elim
theorem dt_cmp {op : CmpOp} {r : R2} {g : D → D → Option (Nat × D)} {pos : Pos} (ho : OpR X (compareOp op) r) (hr : OpF2 X.K r g) (ha : DE X W a fa) (hb : DE X W b fb) (hm : behindInMarks op b = false) : DT X W (.Compare a [op] [b] pos) (tT (e2 g fa fb)) := by
  obtain ⟨ta, tb, pa, pb, q⟩ := de_2t hr ha hb
  exact ⟨_, pt_cmpR ho pa pb hm, sim_test q⟩
theorem de_cmp {op : CmpOp} {r : R2} {g : D → D → Option (Nat × D)} {pos : Pos} (ho : OpR X (compareOp op) r) (hr : OpF2 X.K r g) (ha : DE X W a fa) (hb : DE X W b fb) (hm : behindInMarks op b = false) : DE X W (.Compare a [op] [b] pos) (e2 g fa fb) :=
  de_2 (fun t u p q => pe_cmpR ho p q hm) hr ha hb
theorem dt_val (h : DE X W e f) (he : ∀ whole, isTrue e X.env whole = (do let v ← whole; standAt e.pos; holding [v] (truthy v))) : DT X W e (tT f) := by
  obtain ⟨t, p, q⟩ := h.ex
  exact ⟨_, pt_val p he, sim_test q⟩
def tAndD (f g : Env → TRes) : Env → TRes := fun δ => match f δ with
  | .ok true δ' => g δ'
  | r => r
def tOrD (f g : Env → TRes) : Env → TRes := fun δ => match f δ with
  | .ok false δ' => g δ'
  | r => r
def tNotD (f : Env → TRes) : Env → TRes := fun δ => match f δ with
  | .ok b δ' => .ok (!b) δ'
  | r => r
structure DW (X : Cx) (W : WX) (e : Expr) (f : Env → TRes) : Prop where
  ex : ∃ t, PW X e t ∧ SimT X W t f
variable {p q : Env → TRes} {rest : List Expr} {pos : Pos}
theorem dw_and1 (h : DT X W a p) : DW X W (.BoolOp .And [a] pos) p := by obtain ⟨t, p, q⟩ := h.ex; exact ⟨t, pw_and1 p, q⟩
theorem dw_or1 (h : DT X W a p) : DW X W (.BoolOp .Or [a] pos) p := by obtain ⟨t, p, q⟩ := h.ex; exact ⟨t, pw_or1 p, q⟩
theorem dw_and (h : DT X W a p) (h' : DW X W (.BoolOp .And (b :: rest) pos) q) : DW X W (.BoolOp .And (a :: b :: rest) pos) (tAndD p q) := by
  obtain ⟨t, p1, q1⟩ := h.ex
  obtain ⟨t2, p2, q2⟩ := h'.ex
  refine ⟨_, pw_and p1 p2, fun σ H δ L R Q s ok => q1 σ H δ L R _ s ?_⟩
  unfold tAndD at ok
  cases hf : p δ with
  | bad => rw [hf] at ok; exact ok
  | exc x δ' => rw [hf] at ok; exact ok
  | ok c δ1 =>
    rw [hf] at ok
    intro H1 L1 k w s1
    cases c with
    | true => exact iteT (q2 σ H1 δ1 L1 R Q s1 (TOk.same k w ok))
    | false => exact iteF (ok H1 L1 k w s1)
theorem dw_or (h : DT X W a p) (h' : DW X W (.BoolOp .Or (b :: rest) pos) q) : DW X W (.BoolOp .Or (a :: b :: rest) pos) (tOrD p q) := by
  obtain ⟨t, p1, q1⟩ := h.ex
  obtain ⟨t2, p2, q2⟩ := h'.ex
  refine ⟨_, pw_or p1 p2, fun σ H δ L R Q s ok => q1 σ H δ L R _ s ?_⟩
  unfold tOrD at ok
  cases hf : p δ with
  | bad => rw [hf] at ok; exact ok
  | exc x δ' => rw [hf] at ok; exact ok
  | ok c δ1 =>
    rw [hf] at ok
    intro H1 L1 k w s1
    cases c with
    | true => exact iteT (ok H1 L1 k w s1)
    | false => exact iteF (q2 σ H1 δ1 L1 R Q s1 (TOk.same k w ok))
theorem dw_dt (h : DW X W e p) : DT X W e p := by obtain ⟨t, p, q⟩ := h.ex; exact ⟨t, p.pt, q⟩
theorem dt_not (h : DT X W a p) : DT X W (.UnaryOp .Not a pos) (tNotD p) := by
  obtain ⟨t, p1, q1⟩ := h.ex
  refine ⟨_, pt_not p1, fun σ H δ L R Q s ok => q1 σ H δ L R _ s ?_⟩
  unfold tNotD at ok
  cases hf : p δ with
  | bad => rw [hf] at ok; exact ok
  | exc x δ' => rw [hf] at ok; exact ok
  | ok c δ1 =>
    rw [hf] at ok
    exact fun H1 L1 k w s1 => ok H1 L1 k w s1
def eAnd (f g : EV) : EV := fun δ => match f δ with
  | .ok _ (.bl true) δ' => g δ'
  | .ok _ (.bl false) δ' => .ok 0 (.bl false) δ'
  | .exc x δ' => .exc x δ'
  | _ => .bad
def eOr (f g : EV) : EV := fun δ => match f δ with
  | .ok _ (.bl true) δ' => .ok 0 (.bl true) δ'
  | .ok _ (.bl false) δ' => g δ'
  | .exc x δ' => .exc x δ'
  | _ => .bad
def eNot (f : EV) : EV := fun δ => match f δ with
  | .ok _ (.bl b) δ' => .ok 0 (.bl (!b)) δ'
  | .exc x δ' => .exc x δ'
  | _ => .bad
theorem de_one {op : BoolOp} (h : DE X W a f) : DE X W (.BoolOp op [a] pos) f := by obtain ⟨t, p, q⟩ := h.ex; exact ⟨t, pe_one p, q⟩
theorem EOk.bl {b : Bool} {σ : L2.St} {H : Hp} {L R : As} {δ' : Env} {Q : VK} (h : EOk X W σ H L R Q (.ok 0 (.bl b) δ')) {H1 : Hp} {L1 : As} (k : Kp H H1 L) (w : Nw H L L1) (s : SR X.K σ H1 δ' L1 R) : Q (.bl b) H1 :=
  h (.bl b) H1 [] L1 k w s (by simp [Rp])
theorem de_and (h : DE X W a f) (h' : DE X W (.BoolOp .And (b :: rest) pos) fb) : DE X W (.BoolOp .And (a :: b :: rest) pos) (eAnd f fb) := by
  obtain ⟨t, p1, q1⟩ := h.ex
  obtain ⟨t2, p2, q2⟩ := h'.ex
  refine ⟨_, pe_and p1 p2, fun σ H δ L R Q s ok => q1 σ H δ L R _ s ?_⟩
  unfold eAnd at ok
  split at ok
  · rename_i m δ1 hf
    rw [hf]
    intro v H1 l L1 k w s1 rp
    exact ⟨true, rp.bl, iteT (q2 σ H1 δ1 L1 R Q (s1.less (List.sublist_append_right _ _)) (EOk.same k w.right ok))⟩
  · rename_i m δ1 hf
    rw [hf]
    intro v H1 l L1 k w s1 rp
    exact ⟨false, rp.bl, iteF (EOk.bl ok k w.right (s1.less (List.sublist_append_right _ _)))⟩
  · rename_i x δ1 hf; rw [hf]; exact ok
  · exact ok.elim
theorem de_or (h : DE X W a f) (h' : DE X W (.BoolOp .Or (b :: rest) pos) fb) : DE X W (.BoolOp .Or (a :: b :: rest) pos) (eOr f fb) := by
  obtain ⟨t, p1, q1⟩ := h.ex
  obtain ⟨t2, p2, q2⟩ := h'.ex
  refine ⟨_, pe_or p1 p2, fun σ H δ L R Q s ok => q1 σ H δ L R _ s ?_⟩
  unfold eOr at ok
  split at ok
  · rename_i m δ1 hf
    rw [hf]
    intro v H1 l L1 k w s1 rp
    exact ⟨true, rp.bl, iteT (EOk.bl ok k w.right (s1.less (List.sublist_append_right _ _)))⟩
  · rename_i m δ1 hf
    rw [hf]
    intro v H1 l L1 k w s1 rp
    exact ⟨false, rp.bl, iteF (q2 σ H1 δ1 L1 R Q (s1.less (List.sublist_append_right _ _)) (EOk.same k w.right ok))⟩
  · rename_i x δ1 hf; rw [hf]; exact ok
  · exact ok.elim
theorem de_not (h : DE X W a f) : DE X W (.UnaryOp .Not a pos) (eNot f) := by
  obtain ⟨t, p1, q1⟩ := h.ex
  refine ⟨_, pe_not p1, fun σ H δ L R Q s ok => q1 σ H δ L R _ s ?_⟩
  unfold eNot at ok
  split at ok
  · rename_i m c δ1 hf
    rw [hf]
    intro v H1 l L1 k w s1 rp
    exact ⟨c, rp.bl, EOk.bl ok k w.right (s1.less (List.sublist_append_right _ _))⟩
  · rename_i x δ1 hf; rw [hf]; exact ok
  · exact ok.elim
def eIf (t : Env → TRes) (f g : EV) : EV := fun δ => match t δ with
  | .ok b δ' => if b then f δ' else g δ'
  | .exc x δ' => .exc x δ'
  | .bad => .bad
theorem de_if (hc : DT X W c p) (ha : DE X W a fa) (hb : DE X W b fb) : DE X W (.IfExp c a b pos) (eIf p fa fb) := by
  obtain ⟨t, p1, q1⟩ := hc.ex
  obtain ⟨t2, p2, q2⟩ := ha.ex
  obtain ⟨t3, p3, q3⟩ := hb.ex
  refine ⟨_, pe_ifExp p1 p2 p3, fun σ H δ L R Q s ok => q1 σ H δ L R _ s ?_⟩
  unfold eIf at ok
  cases hf : p δ with
  | bad => rw [hf] at ok; exact ok
  | exc x δ' => rw [hf] at ok; exact ok
  | ok c δ1 =>
    rw [hf] at ok
    intro H1 L1 k w s1
    cases c with
    | true => exact iteT (q2 σ H1 δ1 L1 R Q s1 (EOk.same k w (by simpa using ok)))
    | false => exact iteF (q3 σ H1 δ1 L1 R Q s1 (EOk.same k w (by simpa using ok)))
def eChain (g g' : D → D → Option (Nat × D)) (fa fb fc : EV) : EV := fun δ => match fa δ with
  | .ok _ x δ1 => (match fb δ1 with
    | .ok _ y δ2 => (match g x y with
      | some (_, .bl true) => (match fc δ2 with
        | .ok _ z δ3 => toRes δ3 (g' y z)
        | r => r)
      | some (_, .bl false) => .ok 0 (.bl false) δ2
      | _ => .bad)
    | r => r)
  | r => r
theorem sim_chain {r r' : R2} {g g' : D → D → Option (Nat × D)} {ta tb tc : TE} (hr : OpF2 X.K r g) (hr' : OpF2 X.K r' g') (qa : SimE X W ta fa) (qb : SimE X W tb fb) (qc : SimE X W tc fc) : SimE X W (tChain r r' ta tb tc) (eChain g g' fa fb fc) := by
  intro σ H δ L R Q s ok
  unfold eChain at ok
  refine two_of qa qb s (fun x δ' e1 => by rw [e1] at ok; exact ok) (fun e1 => by rw [e1] at ok; exact ok) fun m d δ1 e1 => ?_
  rw [e1] at ok
  simp only at ok
  refine ⟨fun e2 => by rw [e2] at ok; exact ok, fun x δ' e2 => by rw [e2] at ok; exact ok, fun n e δ2 e2 v u H2 l1 l2 L2 k w s2 r1 r2 => ?_⟩
  rw [e2] at ok
  simp only at ok
  obtain ⟨z1, z2⟩ := fz_at s2
  have f1 := r1.fz (fun a ha => z1 a (List.mem_append_right _ ha)) z2
  have f2 := r2.fz (fun a ha => z1 a (List.mem_append_left _ ha)) z2
  have s2' : SR X.K σ H2 δ2 L2 R := s2.less (List.sublist_append_right _ _)
  have w' : Nw H L L2 := w.right
  refine hr H2 (L2 ++ R) d v e u _ f1 f2 ?_
  cases hg : g d e with
  | none => rw [hg] at ok; exact ok.elim
  | some p =>
    obtain ⟨mb, db⟩ := p
    rw [hg] at ok
    intro v3 H3 l3 ext nd new rp3
    have kk : Kp H2 H3 [] := ⟨fun a o e _ => ext a o e, fun a z => by cases z⟩
    have io : ∀ {a}, IsOwn H2 a → IsOwn H3 a := fun {a} q => q.imp (fun ⟨x, e⟩ => ⟨x, ext _ _ e⟩) fun ⟨x, e⟩ => ⟨x, ext _ _ e⟩
    have s3 : SR X.K σ H3 δ2 L2 R := s2'.step kk (fun a z => by cases z) s2'.nd (fun a ha => .inl ha) fun a ha => io (s2'.tr a ha)
    have k3 : Kp H H3 L := ⟨fun a o e n => ext a o (k.kp a o e n), k.ow⟩
    cases db with
    | bl kb =>
      refine ⟨kb, rp3.bl, ?_⟩
      cases kb with
      | false => exact iteF (EOk.bl ok k3 w' s3)
      | true =>
        simp only at ok
        refine iteT (qc σ H3 δ2 L2 R _ s3 ?_)
        cases e3 : fc δ2 with
        | bad => rw [e3] at ok; exact ok
        | exc x δ' => rw [e3] at ok; exact XOk.same k3 w' ok
        | ok m3 z δ3 =>
          rw [e3] at ok
          intro v4 H4 l4 L4 k4 w4 s4 r4
          obtain ⟨y1, y2⟩ := fz_at s4
          have g2 : Rp X.K H4 (L4 ++ R) 0 e u [] := by
            have a1 : Rp X.K H3 (L2 ++ R) 0 e u [] := f2.step kk (fun a z => by cases z) (fun a ha => .inl ha) fun _ z => by cases z
            exact a1.step k4 (fun a ha => List.mem_append_left _ ha) (fun a ha => by
              rcases List.mem_append.mp ha with q | q
              · exact (w4.right a q).imp_left fun z => List.mem_append_left _ z
              · exact .inl (List.mem_append_right _ q)) fun _ z => by cases z
          exact hr' H4 (L4 ++ R) e u z v4 Q g2 (r4.fz y1 y2) (fin_new (k3.trans w' k4) (Nw.trans k3 w' w4) s4 ok)
    | _ => exact ok.elim
theorem de_chain {op op' : CmpOp} {r r' : R2} {g g' : D → D → Option (Nat × D)} (ho : OpR X (compareOp op) r) (ho' : OpR X (compareOp op') r') (hr : OpF2 X.K r g) (hr' : OpF2 X.K r' g') (ha : DE X W a fa) (hb : DE X W b fb) (hc : DE X W c fc)
    (hm : lastMarks [op, op'] [b, c] = false) : DE X W (.Compare a [op, op'] [b, c] pos) (eChain g g' fa fb fc) := by
  obtain ⟨ta, pa, qa⟩ := ha.ex
  obtain ⟨tb, pb, qb⟩ := hb.ex
  obtain ⟨tc, pc, qc⟩ := hc.ex
  exact ⟨_, pe_chain ho ho' pa pb pc hm, sim_chain hr hr' qa qb qc⟩
theorem dt_chain {op op' : CmpOp} {r r' : R2} {g g' : D → D → Option (Nat × D)} (ho : OpR X (compareOp op) r) (ho' : OpR X (compareOp op') r') (hr : OpF2 X.K r g) (hr' : OpF2 X.K r' g') (ha : DE X W a fa) (hb : DE X W b fb) (hc : DE X W c fc)
    (hm : lastMarks [op, op'] [b, c] = false) : DT X W (.Compare a [op, op'] [b, c] pos) (tT (eChain g g' fa fb fc)) := by
  obtain ⟨ta, pa, qa⟩ := ha.ex
  obtain ⟨tb, pb, qb⟩ := hb.ex
  obtain ⟨tc, pc, qc⟩ := hc.ex
  exact ⟨_, pt_chain ho ho' pa pb pc hm, sim_test (sim_chain hr hr' qa qb qc)⟩
end
end DL
namespace DL
open PySem PySem.Spec L2
open PyProof.Rows hiding St
def D.at : D → List Nat → Option D
  | d, [] => some d
  | .tup ds, i :: p => match ds[i]? with
    | some d => D.at d p
    | none => none
  | _, _ :: _ => none
def D.put : D → List Nat → D → D
  | _, [], e => e
  | .tup ds, i :: p, e => match ds[i]? with
    | some d => .tup (ds.set i (D.put d p e))
    | none => .tup ds
  | d, _ :: _, _ => d
def PathV (K : PySem.W.Frag) (H : Hp) : V → List Nat → V → Prop
  | v, [], w => v = w
  | v, i :: p, w => ∃ a vs u, v = .ref a ∧ H a = some (.tup vs) ∧ vs[i]? = some u ∧ PathV K H u p w
section
variable {K : PySem.W.Frag} {H : Hp} {N : As}
theorem Rps.split : ∀ {m : Nat} {ds : List D} {vs : List V} {l : As} {i : Nat} {d : D}, Rps K H N m ds vs l → ds[i]? = some d →
    ∃ v l1 l2, vs[i]? = some v ∧ l.Perm (l1 ++ l2) ∧ Rp K H N m d v l1 ∧
      ∀ (H' : Hp) (N' X : As) (e : D) (u : V) (l1' : As), Kp H H' X → (∀ a ∈ X, a ∈ N) → Nw H N N' → (∀ a ∈ l2, a ∉ X) → Rp K H' N' m e u l1' → ∃ l', l'.Perm (l1' ++ l2) ∧ Rps K H' N' m (ds.set i e) (vs.set i u) l'
  | m, [], vs, l, i, d, h, e => by simp at e
  | m, x :: ds, vs, l, 0, d, h, e => by
    simp only [Rps] at h; obtain ⟨v, vr, l1, l2, e', el, r1, r2⟩ := h
    have : x = d := by simpa using e
    subst this e' el
    refine ⟨v, l1, l2, rfl, List.Perm.refl _, r1, fun H' N' X e u l1' k hX w n r => ⟨l1' ++ l2, List.Perm.refl _, ?_⟩⟩
    show Rps K H' N' m (e :: ds) (u :: vr) _
    simp only [Rps]
    exact ⟨u, vr, l1', l2, rfl, rfl, r, r2.step k hX w n⟩
  | m, x :: ds, vs, l, i + 1, d, h, e => by
    simp only [Rps] at h; obtain ⟨v0, vr, l1, l2, e', el, r1, r2⟩ := h
    obtain ⟨v, k1, k2, h1, h2, h3, h4⟩ := Rps.split r2 (i := i) (by simpa using e)
    subst e' el
    refine ⟨v, k1, l1 ++ k2, by simpa using h1, ?_, h3, fun H' N' X e u l1' k hX w n r => ?_⟩
    · exact (List.Perm.append_left l1 h2).trans (by rw [← List.append_assoc, ← List.append_assoc]; exact List.Perm.append_right k2 List.perm_append_comm)
    · obtain ⟨l', p', r'⟩ := h4 H' N' X e u l1' k hX w (fun a ha => n a (List.mem_append_right _ ha)) r
      refine ⟨l1 ++ l', ?_, ?_⟩
      · exact (List.Perm.append_left l1 p').trans (by rw [← List.append_assoc, ← List.append_assoc]; exact List.Perm.append_right k2 List.perm_append_comm)
      · show Rps K H' N' m (x :: ds.set i e) (v0 :: vr.set i u) _
        simp only [Rps]
        exact ⟨v0, _, l1, l', rfl, rfl, r1.step k hX w fun a ha => n a (List.mem_append_left _ ha), r'⟩
theorem set_same {α : Type} {vs : List α} {i : Nat} {v : α} (h : vs[i]? = some v) : vs.set i v = vs := by
  apply List.ext_getElem?
  intro j
  rw [List.getElem?_set]
  split
  · rename_i e
    subst e
    have := (List.getElem?_eq_some_iff.mp h).1
    rw [h]; simp [this]
  · rfl
theorem Rp.path : ∀ {p : List Nat} {m : Nat} {d : D} {v : V} {l : As} {d' : D}, Rp K H N (m + 1) d v l → d.at p = some d' →
    ∃ v' l1 l2, PathV K H v p v' ∧ l.Perm (l1 ++ l2) ∧ Rp K H N (m + 1) d' v' l1 ∧
      ∀ (H' : Hp) (N' X : As) (e : D) (l1' : As), Kp H H' X → (∀ a ∈ X, a ∈ N) → Nw H N N' → (∀ a ∈ l2, a ∉ X) → Rp K H' N' (m + 1) e v' l1' → ∃ l', l'.Perm (l1' ++ l2) ∧ Rp K H' N' (m + 1) (d.put p e) v l'
  | [], m, d, v, l, d', h, e => by
    have : d = d' := by cases d <;> simpa [D.at] using e
    subst this
    exact ⟨v, l, [], rfl, by simp, h, fun H' N' X e l1' k hX w n r => ⟨l1', by simp, by cases d <;> simpa [D.put] using r⟩⟩
  | i :: p, m, d, v, l, d', h, e => by
    cases d with
    | tup ds =>
      simp only [D.at] at e
      split at e
      · rename_i di hdi
        simp only [Rp] at h
        obtain ⟨a, vs, rfl, hs, r⟩ := h
        obtain ⟨u, l1, l2, h1, h2, h3, h4⟩ := r.split hdi
        obtain ⟨v', k1, k2, g1, g2, g3, g4⟩ := Rp.path h3 e
        refine ⟨v', k1, k2 ++ l2, ⟨a, vs, u, rfl, hs, h1, g1⟩, ?_, g3, fun H' N' X e l1' k hX w n rr => ?_⟩
        · refine h2.trans ?_
          rw [← List.append_assoc]
          exact List.Perm.append_right l2 g2
        · obtain ⟨l', q1, q2⟩ := g4 H' N' X e l1' k hX w (fun a ha => n a (List.mem_append_left _ ha)) rr
          obtain ⟨l'', s1, s2⟩ := h4 H' N' X _ u l' k hX w (fun a ha => n a (List.mem_append_right _ ha)) q2
          rw [set_same h1] at s2
          refine ⟨l'', ?_, ?_⟩
          · refine s1.trans ?_
            rw [← List.append_assoc]
            exact List.Perm.append_right l2 q1
          · simp only [D.put, hdi]
            simp only [Rp]
            exact ⟨a, vs, rfl, k.tpA hs, s2⟩
      · cases e
    | _ => simp [D.at] at e
theorem SR.mut {σ : L2.St} {δ : Env} {L R lt : As} {j m : Nat} {d : D} {p : List Nat} {ds : List D} (s : SR K σ H δ L (lt ++ R)) (e : δ[j]? = some (some (m + 1, d))) (ea : d.at p = some (.lst ds)) :
    ∃ v a vs l' L2, σ[j]? = some (some v) ∧ PathV K H v p (.ref a) ∧ H a = some (.lst vs) ∧ L.Perm ((a :: l') ++ L2) ∧ Rps K H (L ++ (lt ++ R)) m ds vs l' ∧
      ∀ ds' vs' l'' rest, (l'' ++ rest).Perm (l' ++ lt) → Rps K H (L ++ (lt ++ R)) m ds' vs' l'' →
        SR K σ (upd H a (.lst vs')) (δ.set j (some (m + 1, d.put p (.lst ds')))) ((a :: l'') ++ L2) R := by
  obtain ⟨v, l, L1, h1, h2, h3, h4⟩ := s.get e
  obtain ⟨v', l1, l2, g1, g2, g3, g4⟩ := h3.path ea
  simp only [Rp] at g3
  obtain ⟨a, vs, l', rfl, hA, rfl, hr⟩ := g3
  have pL : L.Perm ((a :: l') ++ (l2 ++ L1)) := h2.trans (by rw [← List.append_assoc]; exact List.Perm.append_right L1 g2)
  refine ⟨v, a, vs, l', l2 ++ L1, h1, g1, hA, pL, hr, fun ds' vs' l'' rest hp hr' => ?_⟩
  -- apart
  have nd : ((a :: l') ++ (l2 ++ L1) ++ (lt ++ R)).Nodup := (List.Perm.append_right (lt ++ R) pL).nodup_iff.mp s.nd
  have aN : a ∈ L ++ (lt ++ R) := List.mem_append_left _ (pL.mem_iff.mpr (by simp))
  have own_a : IsOwn H a := .inl ⟨_, hA⟩
  have k : Kp H (upd H a (.lst vs')) [a] := ⟨fun b o q n => by rw [upd_ne (by simpa using n)]; exact q, fun b hb => (List.mem_singleton.mp hb) ▸ own_a⟩
  have nda : a ∉ l' ∧ a ∉ l2 ∧ a ∉ L1 ∧ a ∉ lt ∧ a ∉ R := by
    have nd' : (a :: (l' ++ (l2 ++ L1) ++ (lt ++ R))).Nodup := nd
    have := (List.nodup_cons.mp nd').1
    simp only [List.mem_append, not_or] at this
    exact ⟨this.1.1, this.1.2.1, this.1.2.2, this.2.1, this.2.2⟩
  have al'' : a ∉ l'' := fun z => by
    have : a ∈ l' ++ lt := hp.mem_iff.mp (List.mem_append_left _ z)
    exact (List.mem_append.mp this).elim nda.1 nda.2.2.2.1
  have mem_l'' : ∀ b ∈ l'', b ∈ l' ∨ b ∈ lt := fun b hb => List.mem_append.mp (hp.mem_iff.mp (List.mem_append_left _ hb))
  have N2 : ∀ b ∈ ((a :: l'') ++ (l2 ++ L1)) ++ R, b ∈ L ++ (lt ++ R) := fun b hb => by
    rcases List.mem_append.mp hb with hb | hb
    · rcases List.mem_append.mp hb with hb | hb
      · rcases List.mem_cons.mp hb with rfl | hb
        · exact aN
        · rcases mem_l'' b hb with q | q
          · exact List.mem_append_left _ (pL.mem_iff.mpr (by simp [q]))
          · exact List.mem_append_right _ (List.mem_append_left _ q)
      · exact List.mem_append_left _ (pL.mem_iff.mpr (List.mem_append_right _ hb))
    · exact List.mem_append_right _ (List.mem_append_right _ hb)
  have w : Nw H (L ++ (lt ++ R)) (((a :: l'') ++ (l2 ++ L1)) ++ R) := fun b hb => .inl (N2 b hb)
  have new : Rp K (upd H a (.lst vs')) (((a :: l'') ++ (l2 ++ L1)) ++ R) (m + 1) (.lst ds') (.ref a) (a :: l'') := by
    simp only [Rp]
    exact ⟨a, vs', l'', rfl, upd_same, rfl, hr'.step k (fun b hb => (List.mem_singleton.mp hb) ▸ aN) w fun b hb z => by
      have : b = a := by simpa using z
      subst this; exact al'' hb⟩
  obtain ⟨ln, q1, q2⟩ := g4 _ _ [a] _ _ k (fun b hb => (List.mem_singleton.mp hb) ▸ aN) w (fun b hb z => by
    have : b = a := by simpa using z
    subst this; exact nda.2.1 hb) new
  -- the sets
  have pAll : (L1 ++ (ln ++ R)).Perm ((a :: l'') ++ (l2 ++ L1) ++ R) := by
    have : (L1 ++ ln).Perm ((a :: l'') ++ (l2 ++ L1)) := (List.Perm.append_left L1 q1).trans (by
      refine List.perm_append_comm.trans ?_
      rw [List.append_assoc])
    rw [← List.append_assoc]
    exact List.Perm.append_right R this
  have ndN : ((a :: l'') ++ (l2 ++ L1) ++ R).Nodup := by
    have b1 : ((a :: (l'' ++ rest)) ++ (l2 ++ L1) ++ R).Nodup := by
      have : ((a :: (l'' ++ rest)) ++ (l2 ++ L1) ++ R).Perm ((a :: l') ++ (l2 ++ L1) ++ (lt ++ R)) := by
        show (a :: (l'' ++ rest ++ (l2 ++ L1) ++ R)).Perm (a :: (l' ++ (l2 ++ L1) ++ (lt ++ R)))
        refine List.Perm.cons a ?_
        refine (List.Perm.append_right R (List.Perm.append_right (l2 ++ L1) hp)).trans ?_
        simp only [List.append_assoc]
        refine List.Perm.append_left l' ?_
        rw [← List.append_assoc, ← List.append_assoc, ← List.append_assoc l2 L1 (lt ++ R), ← List.append_assoc (l2 ++ L1) lt R]
        refine List.Perm.append_right R ?_
        rw [List.append_assoc]
        exact List.perm_append_comm
      exact this.nodup_iff.mpr nd
    refine b1.sublist (List.Sublist.append (List.Sublist.append (List.Sublist.cons_cons a (List.sublist_append_left _ _)) (List.Sublist.refl _)) (List.Sublist.refl _))
  have io : ∀ {b}, IsOwn H b → IsOwn (upd H a (.lst vs')) b := fun {b} q => by
    by_cases z : b = a
    · subst z; exact .inl ⟨_, upd_same⟩
    · rcases q with ⟨x, q⟩ | ⟨x, q⟩
      · exact .inl ⟨x, by rw [upd_ne z]; exact q⟩
      · exact .inr ⟨x, by rw [upd_ne z]; exact q⟩
  have ownAll : ∀ b ∈ L ++ (lt ++ R), IsOwn H b := fun b hb => (List.mem_append.mp hb).elim (s.own b) (s.tr b)
  have hrest : SR K σ (upd H a (.lst vs')) (δ.set j none) L1 (ln ++ R) := by
    refine h4.step k (fun b hb => ?_) (pAll.nodup_iff.mpr ndN) (fun b hb => .inl ?_) fun b hb => io (ownAll b ?_)
    · have : b = a := by simpa using hb
      subst this
      exact List.mem_append_left _ (g2.mem_iff.mpr (by simp))
    · have : b ∈ L ++ (lt ++ R) := N2 b (pAll.mem_iff.mp (List.mem_append_right _ hb))
      rcases List.mem_append.mp this with q | q
      · rcases List.mem_append.mp (h2.mem_iff.mp q) with q | q
        · exact List.mem_append_left _ q
        · -- b in L1: it can't be, apart
          exfalso
          have nd2 := pAll.nodup_iff.mpr ndN
          exact (List.nodup_append.mp nd2).2.2 b q b hb rfl
      · exact List.mem_append_right _ q
    · exact N2 b (pAll.mem_iff.mp (List.mem_append_right _ hb))
  have fin := hrest.put (i := j) (m := m + 1) (d := d.put p (.lst ds')) (v := v) (by
    have : j < δ.length := (List.getElem?_eq_some_iff.mp e).1
    simp [this]) (q2.sub fun b hb => pAll.mem_iff.mp hb)
  rw [List.set_set, set_same h1] at fin
  refine fin.perm ?_ (List.Perm.refl _)
  exact (List.Perm.append_right L1 q1).trans (by rw [List.append_assoc])
end
end DL
namespace DL
open PySem PySem.Spec L2
open PyProof.Rows hiding St
inductive SRes where
  | nx (δ : Env) | ret (m : Nat) (d : D) (δ : Env) | brk (δ : Env) | cnt (δ : Env) | exc (x : XD) (δ : Env) | bad
abbrev SV := Env → SRes
abbrev Fix (F : List Nat) (σ σ' : L2.St) : Prop := ∀ i ∈ F, σ'[i]? = σ[i]?
def NOk (X : Cx) (F : List Nat) (σ : L2.St) (H : Hp) (L R : As) (Q : L2.St → Hp → Prop) (δ' : Env) : Prop :=
  ∀ σ' H' L', Kp H H' L → Nw H L L' → SR X.K σ' H' δ' L' R → Fix F σ σ' → Q σ' H'
def SXOk (X : Cx) (W : WX) (F : List Nat) (σ : L2.St) (H : Hp) (L R : As) (x : XD) (δ' : Env) : Prop :=
  ∀ c dx σ' H' L', Kp H H' L → Nw H L L' → SR X.K σ' H' δ' L' R → Fix F σ σ' → XRel X.K X.mg H' (L' ++ R) x c dx → W c dx σ' H'
def SOk (X : Cx) (W : WX) (F : List Nat) (σ : L2.St) (H : Hp) (L R : As) (D : Ends) : SRes → Prop
  | .nx δ' => NOk X F σ H L R D.nx δ'
  | .brk δ' => NOk X F σ H L R D.bk δ'
  | .cnt δ' => NOk X F σ H L R D.ct δ'
  | .ret m d δ' => ∀ v σ' H' l L', Kp H H' L → Nw H L (l ++ L') → SR X.K σ' H' δ' L' (l ++ R) → Fix F σ σ' → Rp X.K H' (L' ++ (l ++ R)) m d v l → D.rt v H'
  | .exc x δ' => SXOk X W F σ H L R x δ'
  | .bad => False
structure DS (X : Cx) (W : WX) (F : List Nat) (st : Stmt) (f : SV) : Prop where
  ex : ∃ t, PS X st t ∧ ∀ σ H δ L R D, SR X.K σ H δ L R → SOk X W F σ H L R D (f δ) → t D σ H
structure DSs (X : Cx) (W : WX) (F : List Nat) (st : List Stmt) (f : SV) : Prop where
  ex : ∃ t, PSs X st t ∧ ∀ σ H δ L R D, SR X.K σ H δ L R → SOk X W F σ H L R D (f δ) → t D σ H
section
variable {X : Cx} {W : WX} {F : List Nat} {σ σ1 : L2.St} {H H1 : Hp} {L L1 R : As} {D : Ends}
theorem Fix.trans {σ2 : L2.St} (a : Fix F σ σ1) (b : Fix F σ1 σ2) : Fix F σ σ2 := fun i hi => (b i hi).trans (a i hi)
theorem Fix.refl : Fix F σ σ := fun _ _ => rfl
theorem NOk.same {Q : L2.St → Hp → Prop} {δ' : Env} (k : Kp H H1 L) (w : Nw H L L1) (fx : Fix F σ σ1) (h : NOk X F σ H L R Q δ') : NOk X F σ1 H1 L1 R Q δ' := fun σ' H' L' k' w' s' f' =>
  h σ' H' L' (k.trans w k') (Nw.trans k w w') s' (fx.trans f')
theorem SOk.same {r : SRes} (k : Kp H H1 L) (w : Nw H L L1) (fx : Fix F σ σ1) (h : SOk X W F σ H L R D r) : SOk X W F σ1 H1 L1 R D r := by
  cases r with
  | nx δ' => exact NOk.same k w fx h
  | brk δ' => exact NOk.same k w fx h
  | cnt δ' => exact NOk.same k w fx h
  | ret m d δ' => exact fun v σ' H' l L' k' w' s' f' => h v σ' H' l L' (k.trans w k') (Nw.trans k w w') s' (fx.trans f')
  | exc x δ' => exact fun c dx σ' H' L' k' w' s' f' => h c dx σ' H' L' (k.trans w k') (Nw.trans k w w') s' (fx.trans f')
  | bad => exact h
theorem NOk.at {Q : L2.St → Hp → Prop} {δ' : Env} (h : NOk X F σ H L R Q δ') (s : SR X.K σ H δ' L R) : Q σ H := h σ H L s.kp Nw.refl s Fix.refl
theorem XOk.st {x : XD} {δ' : Env} (h : SXOk X W F σ H L R x δ') : XOk X W σ H L R x δ' := fun c dx H' L' k w s r => h c dx σ H' L' k w s Fix.refl r
end
section
variable {X : Cx} {W : WX} {F : List Nat} {st : Stmt} {rest body : List Stmt} {f g : SV} {e a b c : Expr} {fe fa fb : EV} {tt : Env → TRes} {pos : Pos}
def sNext : SV := fun δ => .nx δ
def sSeq (f g : SV) : SV := fun δ => match f δ with
  | .nx δ' => g δ'
  | r => r
theorem dss_nil : DSs X W F [] sNext := ⟨tNext, pss_nil, fun σ H δ L R D s ok => NOk.at ok s⟩
theorem dss_cons (h : DS X W F st f) (h' : DSs X W F rest g) : DSs X W F (st :: rest) (sSeq f g) := by
  obtain ⟨t, p, q⟩ := h.ex
  obtain ⟨u, p', q'⟩ := h'.ex
  refine ⟨_, pss_cons p p', fun σ H δ L R D s ok => q σ H δ L R _ s ?_⟩
  unfold sSeq at ok
  cases hf : f δ with
  | nx δ1 =>
    rw [hf] at ok
    intro σ1 H1 L1 k w s1 fx
    exact q' σ1 H1 δ1 L1 R D s1 (SOk.same k w fx ok)
  | brk δ1 => rw [hf] at ok; exact ok
  | cnt δ1 => rw [hf] at ok; exact ok
  | ret m d δ1 => rw [hf] at ok; exact ok
  | exc x δ1 => rw [hf] at ok; exact ok
  | bad => rw [hf] at ok; exact ok
theorem ds_pass : DS X W F (.Pass pos) sNext := ⟨tNext, ps_pass, fun σ H δ L R D s ok => NOk.at ok s⟩
def sBrk : SV := fun δ => .brk δ
def sCnt : SV := fun δ => .cnt δ
theorem ds_break : DS X W F (.Break pos) sBrk := ⟨tBreak, ps_break, fun σ H δ L R D s ok => NOk.at ok s⟩
theorem ds_cont : DS X W F (.Continue pos) sCnt := ⟨tCont, ps_continue, fun σ H δ L R D s ok => NOk.at ok s⟩
theorem ds_doc {x j pos'} : DS X W F (.Expr (.Constant (.str x) j pos) pos') sNext := ⟨tNext, ps_doc, fun σ H δ L R D s ok => NOk.at ok s⟩
def sBad : SV := fun _ => .bad
theorem ds_never : DS X W F st sBad := ⟨tNever, ps_never, fun σ H δ L R D s ok => ok.elim⟩
def sExpr (f : EV) : SV := fun δ => match f δ with
  | .ok _ _ δ' => .nx δ'
  | .exc x δ' => .exc x δ'
  | .bad => .bad
theorem ds_expr (h : DE X W e fe) (hs : swapsWith e none pos.line X.env = pure false) : DS X W F (.Expr e pos) (sExpr fe) := by
  obtain ⟨t, p, q⟩ := h.ex
  refine ⟨_, ps_expr p hs, fun σ H δ L R D s ok => q σ H δ L R _ s ?_⟩
  unfold sExpr at ok
  cases hf : fe δ with
  | ok m d δ1 =>
    rw [hf] at ok
    exact fun v H1 l L1 k w s1 rp => ok σ H1 L1 k w.right (s1.less (List.sublist_append_right _ _)) Fix.refl
  | exc x δ1 => rw [hf] at ok; exact XOk.st ok
  | bad => rw [hf] at ok; exact ok
def sRet (f : EV) : SV := fun δ => match f δ with
  | .ok m d δ' => .ret m d δ'
  | .exc x δ' => .exc x δ'
  | .bad => .bad
theorem ds_ret (h : DE X W e fe) : DS X W F (.Return (some e) pos) (sRet fe) := by
  obtain ⟨t, p, q⟩ := h.ex
  refine ⟨_, ps_ret p, fun σ H δ L R D s ok => q σ H δ L R _ s ?_⟩
  unfold sRet at ok
  cases hf : fe δ with
  | ok m d δ1 =>
    rw [hf] at ok
    exact fun v H1 l L1 k w s1 rp => ok v σ H1 l L1 k w s1 Fix.refl rp
  | exc x δ1 => rw [hf] at ok; exact XOk.st ok
  | bad => rw [hf] at ok; exact ok
def sRetN : SV := fun δ => .ret 0 .non δ
theorem ds_retN : DS X W F (.Return none pos) sRetN := ⟨tRetN, ps_retN, fun σ H δ L R D s ok => ok .non σ H [] L s.kp Nw_nil s Fix.refl (by simp [Rp])⟩
def sIf (t : Env → TRes) (f g : SV) : SV := fun δ => match t δ with
  | .ok b δ' => if b then f δ' else g δ'
  | .exc x δ' => .exc x δ'
  | .bad => .bad
theorem ds_if {orelse : List Stmt} (hc : DT X W c tt) (hb : DSs X W F body f) (ho : DSs X W F orelse g) : DS X W F (.If c body orelse pos) (sIf tt f g) := by
  obtain ⟨t, p1, q1⟩ := hc.ex
  obtain ⟨t2, p2, q2⟩ := hb.ex
  obtain ⟨t3, p3, q3⟩ := ho.ex
  refine ⟨_, ps_if p1 p2 p3, fun σ H δ L R D s ok => q1 σ H δ L R _ s ?_⟩
  unfold sIf at ok
  cases hf : tt δ with
  | bad => rw [hf] at ok; exact ok
  | exc x δ' => rw [hf] at ok; exact XOk.st ok
  | ok c δ1 =>
    rw [hf] at ok
    intro H1 L1 k w s1
    cases c with
    | true => exact iteT (q2 σ H1 δ1 L1 R D s1 (SOk.same k w Fix.refl (by simpa using ok)))
    | false => exact iteF (q3 σ H1 δ1 L1 R D s1 (SOk.same k w Fix.refl (by simpa using ok)))
abbrev Slot1 := Bool × Nat
inductive Tgt where
  | nm (s : Slot1) | tp (ss : List Slot1)
def md (z : Bool) (m : Nat) : Nat := if z then 0 else m
def setOne (s : Slot1) (m : Nat) (d : D) (δ : Env) : Option Env := if s.2 < δ.length then some (δ.set s.2 (some (md s.1 m, d))) else none
def setMany : List Slot1 → Nat → List D → Env → Option Env
  | [], _, [], δ => some δ
  | s :: ss, m, d :: ds, δ => match setOne s m d δ with
    | some δ' => setMany ss m ds δ'
    | none => none
  | _, _, _, _ => none
def Tgt.set : Tgt → Nat → D → Env → Option Env
  | .nm s, m, d, δ => setOne s m d δ
  | .tp ss, m, .tup ds, δ => setMany ss m ds δ
  | .tp ss, 0, .lst ds, δ => setMany ss 0 ds δ
  | .tp ss, m + 1, .lst ds, δ => setMany ss m ds δ
  | _, _, _, _ => none
theorem fix_set {σ : L2.St} {i : Nat} {x : Option V} (h : i ∉ F) : Fix F σ (σ.set i x) := fun j hj => by
  rw [List.getElem?_set_ne]
  intro z; subst z; exact h hj
theorem setOne_ok {K : PySem.W.Frag} {σ : L2.St} {H : Hp} {δ δ' : Env} {L R l : As} {s1 : Slot1} {m : Nat} {d : D} {v : V} (s : SR K σ H δ L (l ++ R)) (rp : Rp K H (L ++ (l ++ R)) m d v l) (h : setOne s1 m d δ = some δ') :
    ∃ L', (∀ a ∈ L', a ∈ l ++ L) ∧ SR K (σ.set s1.2 (some v)) H δ' L' R := by
  unfold setOne at h
  split at h
  · rename_i hi
    obtain rfl := Option.some.inj h
    cases hz : s1.1 with
    | false => exact s.set hi rp
    | true =>
      obtain ⟨y1, y2⟩ := fz_at s
      obtain ⟨L', h1, h2⟩ := (s.less (R' := R) (List.sublist_append_right _ _)).set (l := []) hi (rp.fz y1 y2)
      exact ⟨L', fun a ha => List.mem_append_right _ (by simpa using h1 a ha), h2⟩
  · cases h
structure DG (X : Cx) (F : List Nat) (tg : Expr) (t : Tgt) : Prop where
  ex : ∃ g, PG X tg g ∧ ∀ v σ H δ L R l m d δ' (Q : L2.St → Hp → Prop), SR X.K σ H δ L (l ++ R) → Rp X.K H (L ++ (l ++ R)) m d v l → t.set m d δ = some δ' →
    (∀ σ' L', (∀ a ∈ L', a ∈ l ++ L) → SR X.K σ' H δ' L' R → Fix F σ σ' → Q σ' H) → g v σ H Q
theorem dg_name {i : Nat} {z : Bool} (h : PG X e (gName i)) (hf : i ∉ F) : DG X F e (.nm (z, i)) := by
  refine ⟨gName i, h, fun v σ H δ L R l m d δ' Q s rp hs q => ?_⟩
  obtain ⟨L', h1, h2⟩ := setOne_ok s rp hs
  exact q _ L' h1 h2 (fix_set hf)
structure DGs (X : Cx) (F : List Nat) (es : List Expr) (ss : List Slot1) : Prop where
  ex : ∃ g, PGs X es g ∧ ∀ vs σ H δ L R l m ds δ' (Q : L2.St → Hp → Prop), SR X.K σ H δ L (l ++ R) → Rps X.K H (L ++ (l ++ R)) m ds vs l → setMany ss m ds δ = some δ' →
    (∀ σ' L', (∀ a ∈ L', a ∈ l ++ L) → SR X.K σ' H δ' L' R → Fix F σ σ' → Q σ' H) → g vs σ H Q
theorem dgs_nil : DGs X F [] [] := by
  refine ⟨gNil, pgs_nil, fun vs σ H δ L R l m ds δ' Q s r hs q => ?_⟩
  cases ds with
  | nil =>
    simp only [Rps] at r
    obtain ⟨rfl, rfl⟩ := r
    have : δ = δ' := by simpa [setMany] using hs
    subst this
    exact ⟨rfl, q σ L (fun a ha => by simpa using ha) s Fix.refl⟩
  | cons d ds => simp [setMany] at hs
theorem dgs_cons {i : Nat} {z : Bool} {es : List Expr} {ss : List Slot1} (h : PG X e (gName i)) (hf : i ∉ F) (h' : DGs X F es ss) (hs : (assignEach (e :: es) X.env).map (·.2) = assign e X.env :: (assignEach es X.env).map (·.2)) : DGs X F (e :: es) ((z, i) :: ss) := by
  obtain ⟨g, p, q⟩ := h'.ex
  refine ⟨_, pgs_cons h p hs, fun vs σ H δ L R l m ds δ' Q s r hs q' => ?_⟩
  cases ds with
  | nil => simp [setMany] at hs
  | cons d ds =>
    simp only [Rps] at r
    obtain ⟨v, vr, l1, l2, rfl, rfl, r1, r2⟩ := r
    simp only [setMany] at hs
    split at hs
    · rename_i δ1 h1
      rw [List.append_assoc] at s r1 r2
      obtain ⟨L1, a1, s1⟩ := setOne_ok s r1 h1
      refine ⟨v, vr, rfl, q vr _ H δ1 L1 R l2 m ds δ' Q s1 (r2.sub fun a ha => ?_) hs fun σ' L' a2 s2 fx => ?_⟩
      · rcases List.mem_append.mp ha with ha | ha
        · rcases List.mem_append.mp (a1 a ha) with ha | ha
          · exact List.mem_append_right _ (List.mem_append_left _ ha)
          · exact List.mem_append_left _ ha
        · exact List.mem_append_right _ (List.mem_append_right _ ha)
      · refine q' σ' L' (fun a ha => ?_) s2 ((fix_set hf).trans fx)
        rcases List.mem_append.mp (a2 a ha) with ha | ha
        · simp [ha]
        · rcases List.mem_append.mp (a1 a ha) with ha | ha <;> simp [ha]
    · cases hs
theorem PG.or {tg : Expr} {g g' : TG} (h : PG X tg g) (h' : PG X tg g') : PG X tg (fun v σ H Q => g v σ H Q ∨ g' v σ H Q) :=
  ⟨fun pins s σ H v u Q I r hw => hw.elim (h.run pins s σ H v u Q I r) (h'.run pins s σ H v u Q I r)⟩
theorem dg_tup {es : List Expr} {ss : List Slot1} {k n : Nat} (hc : X.calm = true) (h : DGs X F es ss) (hl : ss.length = n) (hn : (assignEach es X.env).length = n) (hst : (assignEach es X.env).findIdx? (·.1) = none) : DG X F (.Tuple es k pos) (.tp ss) := by
  obtain ⟨g, p, q⟩ := h.ex
  have many_len : ∀ {ss : List Slot1} {m : Nat} {ds : List D} {δ δ' : Env}, setMany ss m ds δ = some δ' → ds.length = ss.length := by
    intro ss
    induction ss with
    | nil => intro m ds δ δ' h; cases ds <;> simp [setMany] at h ⊢
    | cons s ss ih =>
      intro m ds δ δ' h
      cases ds with
      | nil => simp [setMany] at h
      | cons d ds =>
        simp only [setMany] at h
        split at h
        · simp [ih h]
        · cases h
  refine ⟨_, PG.or (pg_tup hc p hn hst) (pg_lst hc p hn hst), fun v σ H δ L R l m d δ' Q s rp hs q' => ?_⟩
  cases d with
  | tup ds =>
    simp only [Rp] at rp
    obtain ⟨a, vs, rfl, hq, r⟩ := rp
    exact .inl ⟨a, vs, rfl, hq.sq, by rw [← r.len, many_len hs, hl], q vs σ H δ L R l m ds δ' Q s r hs q'⟩
  | lst ds =>
    cases m with
    | zero =>
      simp only [Rp] at rp
      obtain ⟨a, vs, rfl, hq, rfl, r⟩ := rp
      exact .inr ⟨a, vs, rfl, SqL.of hq.1, by rw [← r.len, many_len hs, hl], q vs σ H δ L R [] 0 ds δ' Q s r hs q'⟩
    | succ m =>
      simp only [Rp] at rp
      obtain ⟨a, vs, l', rfl, hq, rfl, r⟩ := rp
      refine .inr ⟨a, vs, rfl, SqL.of hq, by rw [← r.len, many_len hs, hl], q vs σ H δ L R l' m ds δ' Q (s.less (List.Sublist.append (List.sublist_cons_self _ _) (List.Sublist.refl _))) (r.sub fun b hb => ?_) hs fun σ' L' a2 => q' σ' L' fun b hb => ?_⟩
      · rcases List.mem_append.mp hb with hb | hb
        · exact List.mem_append_left _ hb
        · exact List.mem_append_right _ (List.mem_cons_of_mem _ hb)
      · exact List.mem_cons_of_mem _ (a2 b hb)
  | _ => simp [Tgt.set] at hs
def sAsg (t : Tgt) (f : EV) : SV := fun δ => match f δ with
  | .ok m d δ1 => (match t.set m d δ1 with
    | some δ2 => .nx δ2
    | none => .bad)
  | .exc x δ' => .exc x δ'
  | .bad => .bad
theorem asg_sim {te : TE} {g : TG} {t : Tgt} (q : SimE X W te fe) (qg : ∀ v σ H δ L R l m d δ' (Q : L2.St → Hp → Prop), SR X.K σ H δ L (l ++ R) → Rp X.K H (L ++ (l ++ R)) m d v l → t.set m d δ = some δ' →
    (∀ σ' L', (∀ a ∈ L', a ∈ l ++ L) → SR X.K σ' H δ' L' R → Fix F σ σ' → Q σ' H) → g v σ H Q) : ∀ σ H δ L R D, SR X.K σ H δ L R → SOk X W F σ H L R D (sAsg t fe δ) → tAsg te g D σ H := by
  intro σ H δ L R D s ok
  refine q σ H δ L R _ s ?_
  unfold sAsg at ok
  cases hf : fe δ with
  | ok m d δ1 =>
    rw [hf] at ok
    simp only at ok
    intro v H1 l L1 k w s1 rp
    cases ht : t.set m d δ1 with
    | none => rw [ht] at ok; exact ok.elim
    | some δ2 =>
      rw [ht] at ok
      exact qg v σ H1 δ1 L1 R l m d δ2 _ s1 rp ht fun σ' L' a1 s2 fx => ok σ' H1 L' k (fun a ha => w a (a1 a ha)) s2 fx
  | exc x δ1 => rw [hf] at ok; exact XOk.st ok
  | bad => rw [hf] at ok; exact ok
theorem ds_asg {tg : Expr} {t : Tgt} (h : DE X W e fe) (hg : DG X F tg t) (hs : swapsWithSole [tg] e pos.line X.env = pure false) (hw : swappedStores [tg] e X.env = pure none) (h1 : (assignEach [tg] X.env).map (·.2) = [assign tg X.env]) :
    DS X W F (.Assign [tg] e pos) (sAsg t fe) := by
  obtain ⟨te, p, q⟩ := h.ex
  obtain ⟨g, pg, qg⟩ := hg.ex
  exact ⟨_, ps_asg p pg hs hw h1, asg_sim q qg⟩
def sPar (s1 s2 : Slot1) (fa fb : EV) : SV := fun δ => match fa δ with
  | .ok m d δ1 => (match fb δ1 with
    | .ok n e δ2 => (match setOne s1 m d δ2 with
      | some δ3 => (match setOne s2 n e δ3 with
        | some δ4 => .nx δ4
        | none => .bad)
      | none => .bad)
    | .exc x δ' => .exc x δ'
    | .bad => .bad)
  | .exc x δ' => .exc x δ'
  | .bad => .bad
theorem ds_par {i j : Nat} {z1 z2 : Bool} {tg v : Expr} (mk : ∀ ta tb, PE X a ta → PE X b tb → PS X (.Assign [tg] v pos) (tPar i j (tCons ta (tCons tb tNil)))) (hi : i ∉ F) (hj : j ∉ F) (ha : DE X W a fa) (hb : DE X W b fb) :
    DS X W F (.Assign [tg] v pos) (sPar (z1, i) (z2, j) fa fb) := by
  obtain ⟨ta, pa, qa⟩ := ha.ex
  obtain ⟨tb, pb, qb⟩ := hb.ex
  refine ⟨_, mk ta tb pa pb, fun σ H δ L R D s ok => ?_⟩
  unfold sPar at ok
  show ta σ H fun x H1 => tb σ H1 fun y H2 => ∃ v w, [x, y] = [v, w] ∧ D.nx ((σ.set i (some v)).set j (some w)) H2
  refine two_of qa qb s (fun x δ' e1 => by rw [e1] at ok; exact XOk.st ok) (fun e1 => by rw [e1] at ok; exact ok) fun m d δ1 e1 => ?_
  rw [e1] at ok
  simp only at ok
  refine ⟨fun e2 => by rw [e2] at ok; exact ok, fun x δ' e2 => by rw [e2] at ok; exact XOk.st ok, fun n e δ2 e2 v u H2 l1 l2 L2 k w s2 r1 r2 => ?_⟩
  rw [e2] at ok
  simp only at ok
  cases h1 : setOne (z1, i) m d δ2 with
  | none => rw [h1] at ok; exact ok.elim
  | some δ3 =>
    rw [h1] at ok
    simp only at ok
    cases h2 : setOne (z2, j) n e δ3 with
    | none => rw [h2] at ok; exact ok.elim
    | some δ4 =>
      rw [h2] at ok
      have pm : (l2 ++ l1 ++ R).Perm (l1 ++ (l2 ++ R)) := by rw [← List.append_assoc]; exact List.Perm.append_right R List.perm_append_comm
      have hN : ∀ a, a ∈ L2 ++ (l1 ++ (l2 ++ R)) ↔ a ∈ L2 ++ (l2 ++ l1 ++ R) := fun a => (List.Perm.append_left L2 pm).symm.mem_iff
      obtain ⟨L3, a3, s3⟩ := setOne_ok (s2.perm (List.Perm.refl _) pm) (r1.sub fun a ha => (hN a).mp ha) h1
      obtain ⟨L4, a4, s4⟩ := setOne_ok s3 (r2.sub fun a ha => (hN a).mp (by
        rcases List.mem_append.mp ha with ha | ha
        · rcases List.mem_append.mp (a3 a ha) with ha | ha <;> simp [ha]
        · rcases List.mem_append.mp ha with ha | ha <;> simp [ha])) h2
      refine ⟨v, u, rfl, ok _ H2 L4 k (fun a ha => w a ?_) s4 ((fix_set hi).trans (fix_set hj))⟩
      rcases List.mem_append.mp (a4 a ha) with ha | ha
      · simp [ha]
      · rcases List.mem_append.mp (a3 a ha) with ha | ha <;> simp [ha]
end
end DL
namespace DL
open PySem PySem.Spec L2
open PyProof.Rows hiding St
structure ItOk (K : PySem.W.Frag) (J : It) (items : List D) (P : Hp → As → Prop) : Prop where
  step : ∀ H H' N N' L, P H N → Kp H H' L → (∀ a ∈ L, a ∈ N) → Nw H N N' → P H' N'
  go : ∀ H N i d, P H N → items[i]? = some d → J.go i H ∧ ∀ x H', J.yld i H x H' → (∀ a o, H a = some o → H' a = some o) ∧ Rp K H' N 0 d x []
  stop : ∀ H N i, P H N → items.length ≤ i → J.stop i H
inductive IRes where
  | ok (ds : List D) (δ : Env) | exc (x : XD) (δ : Env) | bad
def IOk (X : Cx) (W : WX) (σ : L2.St) (H : Hp) (L R : As) (Q : It → Hp → Prop) : IRes → Prop
  | .ok ds δ' => ∀ J H' L' P, Kp H H' L → Nw H L L' → SR X.K σ H' δ' L' R → ItOk X.K J ds P → P H' (L' ++ R) → Q J H'
  | .exc x δ' => XOk X W σ H L R x δ'
  | .bad => False
structure DI (X : Cx) (W : WX) (tg iter : Expr) (f : Env → IRes) : Prop where
  ex : ∃ t, PI X tg iter t ∧ ∀ σ H δ L R Q, SR X.K σ H δ L R → IOk X W σ H L R Q (f δ) → t σ H Q
theorem PI.or {X : Cx} {tg e : Expr} {t t' : TI} (h : PI X tg e t) (h' : PI X tg e t') : PI X tg e (fun σ H R => t σ H R ∨ t' σ H R) :=
  ⟨fun pins s σ H R I hw => hw.elim (h.run pins s σ H R I) (h'.run pins s σ H R I)⟩
section
variable {X : Cx} {W : WX} {tg e a b : Expr} {fe fa fb : EV} {fs : Env → ARes}
theorem fzL_step {K : PySem.W.Frag} {a : Addr} {vs : List V} {ds : List D} : ∀ H H' N N' L, (FzL H N a vs ∧ Rps K H N 0 ds vs []) → Kp H H' L → (∀ a ∈ L, a ∈ N) → Nw H N N' → (FzL H' N' a vs ∧ Rps K H' N' 0 ds vs []) :=
  fun H H' N N' L h k hL w => ⟨k.fzL hL w h.1, h.2.step k hL w fun _ z => by cases z⟩
theorem sqT_step {K : PySem.W.Frag} {a : Addr} {vs : List V} {ds : List D} : ∀ H H' N N' L, (SqT K H a vs ∧ Rps K H N 0 ds vs []) → Kp H H' L → (∀ a ∈ L, a ∈ N) → Nw H N N' → (SqT K H' a vs ∧ Rps K H' N' 0 ds vs []) :=
  fun H H' N N' L h k hL w => ⟨k.sqT h.1, h.2.step k hL w fun _ z => by cases z⟩
theorem itok_list {K : PySem.W.Frag} {a : Addr} {vs : List V} {ds : List D} : ItOk K (Itl K a) ds (fun H N => FzL H N a vs ∧ Rps K H N 0 ds vs []) where
  step := fzL_step
  go := fun H N i d h hd => by
    obtain ⟨v, hv, r⟩ := h.2.get hd
    refine ⟨⟨vs, v, SqL.of h.1.1, hv⟩, fun x H' y => ?_⟩
    obtain ⟨rfl, y⟩ := y
    have := y vs (SqL.of h.1.1)
    rw [hv] at this; cases this
    exact ⟨fun _ _ e => e, r⟩
  stop := fun H N i h hi => ⟨vs, SqL.of h.1.1, by rw [← h.2.len]; exact hi⟩
theorem itok_tup {K : PySem.W.Frag} {a : Addr} {vs : List V} {ds : List D} : ItOk K (Itt K a) ds (fun H N => SqT K H a vs ∧ Rps K H N 0 ds vs []) where
  step := sqT_step
  go := fun H N i d h hd => by
    obtain ⟨v, hv, r⟩ := h.2.get hd
    refine ⟨⟨vs, v, h.1, hv⟩, fun x H' y => ?_⟩
    obtain ⟨rfl, y⟩ := y
    have := y vs h.1
    rw [hv] at this; cases this
    exact ⟨fun _ _ e => e, r⟩
  stop := fun H N i h hi => ⟨vs, h.1, by rw [← h.2.len]; exact hi⟩
def iSeq (f : EV) : Env → IRes := fun δ => match f δ with
  | .ok _ (.lst ds) δ' => .ok ds δ'
  | .ok _ (.tup ds) δ' => .ok ds δ'
  | .exc x δ' => .exc x δ'
  | _ => .bad
theorem di_seq (h : DE X W e fe) : DI X W tg e (iSeq fe) := by
  obtain ⟨t, p, q⟩ := h.ex
  refine ⟨_, PI.or (pi_list p) (pi_tup p), fun σ H δ L R Q s ok => ?_⟩
  unfold iSeq at ok
  split at ok
  · rename_i m ds δ1 hf
    refine .inl (q σ H δ L R _ s ?_)
    rw [hf]
    intro v H1 l L1 k w s1 rp
    obtain ⟨y1, y2⟩ := fz_at s1
    have r := rp.fz y1 y2
    simp only [Rp] at r
    obtain ⟨a, vs, rfl, fz, _, rr⟩ := r
    exact ⟨a, rfl, ⟨vs, SqL.of fz.1⟩, ok _ H1 L1 _ k w.right (s1.less (List.sublist_append_right _ _)) itok_list ⟨fz, rr⟩⟩
  · rename_i m ds δ1 hf
    refine .inr (q σ H δ L R _ s ?_)
    rw [hf]
    intro v H1 l L1 k w s1 rp
    obtain ⟨y1, y2⟩ := fz_at s1
    have r := rp.fz y1 y2
    simp only [Rp] at r
    obtain ⟨a, vs, rfl, fz, rr⟩ := r
    exact ⟨a, rfl, ⟨vs, fz⟩, ok _ H1 L1 _ k w.right (s1.less (List.sublist_append_right _ _)) itok_tup ⟨fz, rr⟩⟩
  · rename_i x δ1 hf
    refine .inl (q σ H δ L R _ s ?_)
    rw [hf]; exact ok
  · exact ok.elim
theorem itok_range {K : PySem.W.Frag} {lo : Int} {n : Nat} : ItOk K (Itr lo n) ((List.range n).map fun (i : Nat) => D.int (lo + (i : Int))) (fun _ _ => True) where
  step := fun _ _ _ _ _ _ _ _ _ => trivial
  go := fun H N i d _ hd => by
    rw [List.getElem?_map] at hd
    have hi : i < n := by
      cases h : (List.range n)[i]? with
      | none => rw [h] at hd; cases hd
      | some j => exact by simpa using (List.getElem?_eq_some_iff.mp h).1
    rw [List.getElem?_range hi] at hd
    have hd : D.int (lo + i) = d := by simpa using hd
    subst hd
    refine ⟨hi, fun x H' y => ?_⟩
    obtain ⟨rfl, rfl⟩ := y
    exact ⟨fun _ _ e => e, by simp [Rp]⟩
  stop := fun H N i _ hi => by show n ≤ i; simpa using hi
def rangeD (lo : Int) (n : Nat) : List D := (List.range n).map fun (i : Nat) => D.int (lo + (i : Int))
def inW (i : Int) : Bool := decide (-(2 ^ 62) ≤ i) && decide (i < 2 ^ 62)
theorem inW_of {i : Int} (h : inW i = true) : -(2 ^ 62) ≤ i ∧ i < 2 ^ 62 := by simpa [inW] using h
def iR1 (fs : Env → ARes) : Env → IRes := fun δ => match fs δ with
  | .ok [(_, .int j)] δ' => if inW j then .ok (rangeD 0 j.toNat) δ' else .bad
  | .exc x δ' => .exc x δ'
  | _ => .bad
def iR2 (fs : Env → ARes) : Env → IRes := fun δ => match fs δ with
  | .ok [(_, .int i), (_, .int j)] δ' => if inW i && inW j then .ok (rangeD i (j - i).toNat) δ' else .bad
  | .exc x δ' => .exc x δ'
  | _ => .bad
theorem di_range1 {es : List Expr} (mk : ∀ t, PA X es t → PI X tg e (iRng1 t)) (h : DA X W es fs) : DI X W tg e (iR1 fs) := by
  obtain ⟨t, p, q⟩ := h.ex
  refine ⟨_, mk t p, fun σ H δ L R Q s ok => q σ H δ L R _ s ?_⟩
  unfold iR1 at ok
  split at ok
  · rename_i m j δ1 hf
    split at ok
    · rename_i hj
      rw [hf]
      intro vs H1 l L1 k w s1 rp
      obtain ⟨v, vr, l1, l2, rfl, rfl, r1, rfl, rfl⟩ := rp
      obtain ⟨z1, z2⟩ := inW_of hj
      have : v = .int j := by simp only [Rp] at r1; exact r1.1
      subst this
      exact ⟨j, rfl, z1, z2, ok _ H1 L1 _ k w.right (s1.less (List.sublist_append_right _ _)) itok_range trivial⟩
    · exact ok.elim
  · rename_i x δ1 hf
    rw [hf]; exact ok
  · exact ok.elim
theorem di_range2 {es : List Expr} (mk : ∀ t, PA X es t → PI X tg e (iRng2 t)) (h : DA X W es fs) : DI X W tg e (iR2 fs) := by
  obtain ⟨t, p, q⟩ := h.ex
  refine ⟨_, mk t p, fun σ H δ L R Q s ok => q σ H δ L R _ s ?_⟩
  unfold iR2 at ok
  split at ok
  · rename_i m i n j δ1 hf
    split at ok
    · rename_i hj
      simp only [Bool.and_eq_true] at hj
      rw [hf]
      intro vs H1 l L1 k w s1 rp
      obtain ⟨v, vr, l1, l2, rfl, rfl, r1, u, ur, k1, k2, rfl, rfl, r2, rfl, rfl⟩ := rp
      obtain ⟨z1, z2⟩ := inW_of hj.1
      obtain ⟨z3, z4⟩ := inW_of hj.2
      have : v = .int i := by simp only [Rp] at r1; exact r1.1
      subst this
      have : u = .int j := by simp only [Rp] at r2; exact r2.1
      subst this
      exact ⟨i, j, rfl, ⟨z1, z2, z3, z4⟩, ok _ H1 L1 _ k w.right (s1.less (List.sublist_append_right _ _)) itok_range trivial⟩
    · exact ok.elim
  · rename_i x δ1 hf
    rw [hf]; exact ok
  · exact ok.elim
def enumD : Nat → List D → List D
  | _, [] => []
  | n, d :: ds => .tup [.int n, d] :: enumD (n + 1) ds
theorem enumD_get : ∀ (n : Nat) (ds : List D) (i : Nat), (enumD n ds)[i]? = (ds[i]?).map fun d => .tup [.int ((n + i : Nat) : Int), d]
  | n, [], i => by simp [enumD]
  | n, d :: ds, 0 => by simp [enumD]
  | n, d :: ds, i + 1 => by
    show (enumD (n + 1) ds)[i]? = _
    rw [enumD_get (n + 1) ds i]
    simp only [List.getElem?_cons_succ]
    congr 1
    funext d
    congr 3
    omega
theorem enumD_len : ∀ (n : Nat) (ds : List D), (enumD n ds).length = ds.length
  | n, [] => rfl
  | n, d :: ds => by simp [enumD, enumD_len (n + 1) ds]
theorem pair_new {K : PySem.W.Frag} {H : Hp} {N : As} {d e : D} {v u : V} {p : Addr} (hp : H p = none) (h : Rp K H N 0 d v []) (h' : Rp K H N 0 e u []) : Rp K (upd H p (.tup [v, u])) N 0 (.tup [d, e]) (.ref p) [] := by
  have r : Rps K H N 0 [d, e] [v, u] [] := by
    simp only [Rps]
    exact ⟨v, [u], [], [], rfl, rfl, h, u, [], [], [], rfl, rfl, h', rfl, rfl⟩
  have r2 := (r.new (p := p) (o := .tup [v, u]) hp).sub fun a ha => List.mem_cons_of_mem _ ha
  simp only [Rp]
  exact ⟨p, [v, u], rfl, SqT.of upd_same, r2⟩
theorem itok_enum {K : PySem.W.Frag} {a : Addr} {vs : List V} {ds : List D} : ItOk K (Ite K a) (enumD 0 ds) (fun H N => FzL H N a vs ∧ Rps K H N 0 ds vs []) where
  step := fzL_step
  go := fun H N i d h hd => by
    rw [enumD_get] at hd
    cases hx : ds[i]? with
    | none => rw [hx] at hd; cases hd
    | some d0 =>
      rw [hx] at hd
      have hd : D.tup [.int ((0 + i : Nat) : Int), d0] = d := by simpa using hd
      subst hd
      obtain ⟨v, hv, r⟩ := h.2.get hx
      refine ⟨⟨vs, v, SqL.of h.1.1, hv⟩, fun x H' y => ?_⟩
      obtain ⟨T, x0, rfl, hT, rfl, y⟩ := y
      have := y vs (SqL.of h.1.1)
      rw [hv] at this; cases this
      refine ⟨upd_ext hT, ?_⟩
      have := pair_new (K := K) (N := N) (d := .int ((0 + i : Nat) : Int)) (v := .int ((i : Nat) : Int)) hT (by simp [Rp]) r
      exact this
  stop := fun H N i h hi => ⟨vs, SqL.of h.1.1, by rw [← h.2.len, ← enumD_len 0 ds]; exact hi⟩
def iEnumD (fs : Env → ARes) : Env → IRes := fun δ => match fs δ with
  | .ok [(_, .lst ds)] δ' => .ok (enumD 0 ds) δ'
  | .exc x δ' => .exc x δ'
  | _ => .bad
theorem one_lst {K : PySem.W.Frag} {σ : L2.St} {H1 : Hp} {δ1 : Env} {L1 R l : As} {m : Nat} {ds : List D} {vs : List V} (s1 : SR K σ H1 δ1 L1 (l ++ R)) (rp : RpL K H1 (L1 ++ (l ++ R)) [(m, .lst ds)] vs l) :
    ∃ a us, vs = [.ref a] ∧ FzL H1 (L1 ++ R) a us ∧ Rps K H1 (L1 ++ R) 0 ds us [] := by
  obtain ⟨y1, y2⟩ := fz_at s1
  obtain ⟨v, rfl, r⟩ := (rp.fz y1 y2).one
  simp only [Rp] at r
  obtain ⟨a, us, rfl, fz, _, rr⟩ := r
  exact ⟨a, us, rfl, fz, rr⟩
theorem di_enum (mk : ∀ t, PA X [a] t → PI X tg e (iEnum X.K t)) (h : DA X W [a] fs) : DI X W tg e (iEnumD fs) := by
  obtain ⟨t, p, q⟩ := h.ex
  refine ⟨_, mk t p, fun σ H δ L R Q s ok => q σ H δ L R _ s ?_⟩
  unfold iEnumD at ok
  split at ok
  · rename_i m ds δ1 hf
    rw [hf]
    intro vs H1 l L1 k w s1 rp
    obtain ⟨a, us, rfl, fz, rr⟩ := one_lst s1 rp
    exact ⟨a, us, rfl, SqL.of fz.1, ok _ H1 L1 _ k w.right (s1.less (List.sublist_append_right _ _)) itok_enum ⟨fz, rr⟩⟩
  · rename_i x δ1 hf
    rw [hf]; exact ok
  · exact ok.elim
def zipD : List D → List D → List D
  | d :: ds, e :: es => .tup [d, e] :: zipD ds es
  | _, _ => []
theorem zipD_get : ∀ (ds es : List D) (i : Nat) (x : D), (zipD ds es)[i]? = some x → ∃ d e, ds[i]? = some d ∧ es[i]? = some e ∧ x = .tup [d, e]
  | [], es, i, x, h => by simp [zipD] at h
  | d :: ds, [], i, x, h => by simp [zipD] at h
  | d :: ds, e :: es, 0, x, h => ⟨d, e, rfl, rfl, by simpa [zipD] using h.symm⟩
  | d :: ds, e :: es, i + 1, x, h => by
    obtain ⟨d', e', h1, h2, h3⟩ := zipD_get ds es i x (by simpa [zipD] using h)
    exact ⟨d', e', by simpa using h1, by simpa using h2, h3⟩
theorem zipD_len : ∀ (ds es : List D), (zipD ds es).length = min ds.length es.length
  | [], es => by simp [zipD]
  | d :: ds, [] => by simp [zipD]
  | d :: ds, e :: es => by simp [zipD, zipD_len ds es]
theorem itok_zip {K : PySem.W.Frag} {a b : Addr} {vs us : List V} {ds es : List D} : ItOk K (Itz K a b) (zipD ds es) (fun H N => (FzL H N a vs ∧ Rps K H N 0 ds vs []) ∧ (FzL H N b us ∧ Rps K H N 0 es us [])) where
  step := fun H H' N N' L h k hL w => ⟨fzL_step H H' N N' L h.1 k hL w, fzL_step H H' N N' L h.2 k hL w⟩
  go := fun H N i d h hd => by
    obtain ⟨d0, e0, h1, h2, rfl⟩ := zipD_get ds es i d hd
    obtain ⟨v, hv, r⟩ := h.1.2.get h1
    obtain ⟨u, hu, r'⟩ := h.2.2.get h2
    refine ⟨⟨vs, us, v, u, SqL.of h.1.1.1, SqL.of h.2.1.1, hv, hu⟩, fun x H' y => ?_⟩
    obtain ⟨T, x0, y0, rfl, hT, rfl, y1, y2⟩ := y
    have := y1 vs (SqL.of h.1.1.1)
    rw [hv] at this; cases this
    have := y2 us (SqL.of h.2.1.1)
    rw [hu] at this; cases this
    exact ⟨upd_ext hT, pair_new hT r r'⟩
  stop := fun H N i h hi => ⟨vs, us, SqL.of h.1.1.1, SqL.of h.2.1.1, by
    rw [zipD_len] at hi
    rw [← h.1.2.len, ← h.2.2.len]
    omega⟩
def iZipD (fs : Env → ARes) : Env → IRes := fun δ => match fs δ with
  | .ok [(_, .lst ds), (_, .lst es)] δ' => .ok (zipD ds es) δ'
  | .exc x δ' => .exc x δ'
  | _ => .bad
theorem di_zip (mk : ∀ t, PA X [a, b] t → PI X tg e (iZip X.K t)) (h : DA X W [a, b] fs) : DI X W tg e (iZipD fs) := by
  obtain ⟨t, p, q⟩ := h.ex
  refine ⟨_, mk t p, fun σ H δ L R Q s ok => q σ H δ L R _ s ?_⟩
  unfold iZipD at ok
  split at ok
  · rename_i m ds n es δ1 hf
    rw [hf]
    intro vs H1 l L1 k w s1 rp
    obtain ⟨y1, y2⟩ := fz_at s1
    obtain ⟨v, u, rfl, r, r'⟩ := (rp.fz y1 y2).two
    simp only [Rp] at r r'
    obtain ⟨a, us, rfl, fz, _, rr⟩ := r
    obtain ⟨b, ws, rfl, fz', _, rr'⟩ := r'
    exact ⟨a, b, us, ws, rfl, SqL.of fz.1, SqL.of fz'.1, ok _ H1 L1 _ k w.right (s1.less (List.sublist_append_right _ _)) itok_zip ⟨⟨fz, rr⟩, fz', rr'⟩⟩
  · rename_i x δ1 hf
    rw [hf]; exact ok
  · exact ok.elim
theorem itok_rev {K : PySem.W.Frag} {a : Addr} {vs : List V} {ds : List D} : ItOk K (Itv K a vs.length) ds.reverse (fun H N => FzL H N a vs ∧ Rps K H N 0 ds vs []) where
  step := fzL_step
  go := fun H N i d h hd => by
    have hi : i < ds.length := by
      have := (List.getElem?_eq_some_iff.mp hd).1
      simpa using this
    have hl := h.2.len
    rw [List.getElem?_reverse hi] at hd
    obtain ⟨v, hv, r⟩ := h.2.get hd
    have hv' : vs[vs.length - 1 - i]? = some v := by rw [← hl]; exact hv
    refine ⟨⟨by omega, vs, v, SqL.of h.1.1, hv'⟩, fun x H' y => ?_⟩
    obtain ⟨rfl, y⟩ := y
    have := y vs (SqL.of h.1.1)
    rw [hv'] at this; cases this
    exact ⟨fun _ _ e => e, r⟩
  stop := fun H N i h hi => by
    show vs.length ≤ i
    rw [← h.2.len]; simpa using hi
def iRevD (fs : Env → ARes) : Env → IRes := fun δ => match fs δ with
  | .ok [(_, .lst ds)] δ' => .ok ds.reverse δ'
  | .exc x δ' => .exc x δ'
  | _ => .bad
theorem di_rev (mk : ∀ t, PA X [a] t → PI X tg e (iRev X.K t)) (h : DA X W [a] fs) : DI X W tg e (iRevD fs) := by
  obtain ⟨t, p, q⟩ := h.ex
  refine ⟨_, mk t p, fun σ H δ L R Q s ok => q σ H δ L R _ s ?_⟩
  unfold iRevD at ok
  split at ok
  · rename_i m ds δ1 hf
    rw [hf]
    intro vs H1 l L1 k w s1 rp
    obtain ⟨a, us, rfl, fz, rr⟩ := one_lst s1 rp
    exact ⟨a, us, rfl, SqL.of fz.1, ok _ H1 L1 _ k w.right (s1.less (List.sublist_append_right _ _)) itok_rev ⟨fz, rr⟩⟩
  · rename_i x δ1 hf
    rw [hf]; exact ok
  · exact ok.elim
def forL (t : Tgt) (body : SV) : List D → Env → SRes
  | [], δ => .nx δ
  | d :: ds, δ => match t.set 0 d δ with
    | some δ1 => (match body δ1 with
      | .nx δ2 => forL t body ds δ2
      | .cnt δ2 => forL t body ds δ2
      | .brk δ2 => .nx δ2
      | .ret m d δ2 => .ret m d δ2
      | .exc x δ2 => .exc x δ2
      | .bad => .bad)
    | none => .bad
def sFor (t : Tgt) (it : Env → IRes) (body : SV) : SV := fun δ => match it δ with
  | .ok ds δ' => forL t body ds δ'
  | .exc x δ' => .exc x δ'
  | .bad => .bad
variable {F : List Nat} {body : List Stmt} {fb : SV} {fi : Env → IRes} {t : Tgt} {iter : Expr} {pos : Pos}
theorem ds_for (hp : PassesOwn (model X.prog X.w) X.A X.env X.xe) (hc : X.calm = true) (hi : DI X W tg iter fi) (hg : DG X F tg t) (hb : DSs X W F body fb) (hs : ∀ x, foldedSetIterable iter X.env x = pure x) :
    DS X W F (.For tg iter body [] pos) (sFor t fi fb) := by
  obtain ⟨wi, pi, qi⟩ := hi.ex
  obtain ⟨g, pg, qg⟩ := hg.ex
  obtain ⟨tb, pb, qb⟩ := hb.ex
  refine ⟨_, ps_for hp hc pi pg pb hs, fun σ H δ L R D s ok => qi σ H δ L R _ s ?_⟩
  unfold sFor at ok
  cases hf : fi δ with
  | bad => rw [hf] at ok; exact ok
  | exc x δ' => rw [hf] at ok; exact XOk.st ok
  | ok items δ1 =>
    rw [hf] at ok
    intro J H1 L1 P k w s1 J1 p1
    have ok1 : SOk X W F σ H1 L1 R D (forL t fb items δ1) := SOk.same k w Fix.refl ok
    refine ⟨fun i m σ H => m = items.length - i ∧ i ≤ items.length ∧ ∃ δ L, SR X.K σ H δ L R ∧ P H (L ++ R) ∧ SOk X W F σ H L R D (forL t fb (items.drop i) δ), ⟨items.length, by simp, by simp, δ1, L1, s1, p1, ok1⟩, ?_⟩
    rintro i m σ2 H2 ⟨rfl, hi, δ2, L2, s2, p2, ok2⟩
    by_cases hlt : i < items.length
    · refine .inr ?_
      have hx : items[i]? = some items[i] := by simp [hlt]
      obtain ⟨hgo, hy⟩ := J1.go H2 _ i _ p2 hx
      rw [List.drop_eq_getElem_cons hlt] at ok2
      refine ⟨hgo, fun σ' H' => items.length - (i + 1) = items.length - (i + 1) ∧ i + 1 ≤ items.length ∧ ∃ δ L, SR X.K σ' H' δ L R ∧ P H' (L ++ R) ∧ SOk X W F σ' H' L R D (forL t fb (items.drop (i + 1)) δ), fun σ' H' n => ⟨items.length - (i + 1), by omega, n⟩, fun x H3 y => ?_⟩
      obtain ⟨ext, rx⟩ := hy x H3 y
      have kk : Kp H2 H3 [] := ⟨fun a o e _ => ext a o e, fun a z => by cases z⟩
      have io : ∀ {a}, IsOwn H2 a → IsOwn H3 a := fun {a} q => q.imp (fun ⟨x, e⟩ => ⟨x, ext _ _ e⟩) fun ⟨x, e⟩ => ⟨x, ext _ _ e⟩
      have s3 : SR X.K σ2 H3 δ2 L2 R := s2.step kk (fun a z => by cases z) s2.nd (fun a ha => .inl ha) fun a ha => io (s2.tr a ha)
      have k3 : Kp H2 H3 L2 := ⟨fun a o e n => ext a o e, s2.own⟩
      have p3 : P H3 (L2 ++ R) := J1.step _ _ _ _ _ p2 kk (fun a z => by cases z) fun a ha => .inl ha
      unfold forL at ok2
      cases ht : t.set 0 items[i] δ2 with
      | none => rw [ht] at ok2; exact ok2.elim
      | some δ4 =>
        rw [ht] at ok2
        simp only at ok2
        refine qg x σ2 H3 δ2 L2 R [] 0 _ δ4 _ s3 rx ht fun σ4 L4 a4 s4 fx4 => ?_
        have w4 : Nw H2 L2 L4 := fun a ha => .inl (by simpa using a4 a ha)
        have p4 : P H3 (L4 ++ R) := J1.step _ _ _ _ _ p3 Kp.refl (fun a z => by cases z) fun a ha => by
          rcases List.mem_append.mp ha with ha | ha
          · exact .inl (List.mem_append_left _ (by simpa using a4 a ha))
          · exact .inl (List.mem_append_right _ ha)
        refine qb σ4 H3 δ4 L4 R _ s4 ?_
        have next : ∀ δ5, SOk X W F σ2 H2 L2 R D (forL t fb (items.drop (i + 1)) δ5) → NOk X F σ4 H3 L4 R (fun σ' H' => items.length - (i + 1) = items.length - (i + 1) ∧ i + 1 ≤ items.length ∧ ∃ δ L, SR X.K σ' H' δ L R ∧ P H' (L ++ R) ∧ SOk X W F σ' H' L R D (forL t fb (items.drop (i + 1)) δ)) δ5 := by
          intro δ5 ok5 σ' H' L' k' w' s' f'
          refine ⟨rfl, hlt, δ5, L', s', ?_, ?_⟩
          · refine J1.step _ _ _ _ _ p4 k' (fun a ha => List.mem_append_left _ ha) fun a ha => ?_
            rcases List.mem_append.mp ha with ha | ha
            · exact (w' a ha).imp_left fun q => List.mem_append_left _ q
            · exact .inl (List.mem_append_right _ ha)
          · exact SOk.same (k3.trans w4 k') (Nw.trans k3 w4 w') (fx4.trans f') ok5
        cases hr : fb δ4 with
        | nx δ5 => rw [hr] at ok2; exact next δ5 ok2
        | cnt δ5 => rw [hr] at ok2; exact next δ5 ok2
        | brk δ5 => rw [hr] at ok2; exact NOk.same k3 w4 fx4 ok2
        | ret m d δ5 => rw [hr] at ok2; exact SOk.same (D := D) k3 w4 fx4 ok2
        | exc x δ5 => rw [hr] at ok2; exact SOk.same (D := D) k3 w4 fx4 ok2
        | bad => rw [hr] at ok2; exact ok2
    · refine .inl ⟨J1.stop H2 _ i p2 (by omega), ?_⟩
      have e : items.drop i = [] := List.drop_eq_nil_of_le (by omega)
      rw [e] at ok2
      exact NOk.at ok2 s2
def whN (c : Env → TRes) (body : SV) : Nat → Env → Option SRes
  | 0, _ => none
  | n + 1, δ => match c δ with
    | .ok true δ1 => (match body δ1 with
      | .nx δ2 => whN c body n δ2
      | .cnt δ2 => whN c body n δ2
      | .brk δ2 => some (.nx δ2)
      | r => some r)
    | .ok false δ1 => some (.nx δ1)
    | .exc x δ1 => some (.exc x δ1)
    | .bad => some .bad
theorem whN_more (c : Env → TRes) (body : SV) : ∀ (n : Nat) (δ : Env) (r : SRes), whN c body n δ = some r → whN c body (n + 1) δ = some r
  | 0, δ, r, h => by cases h
  | n + 1, δ, r, h => by
    unfold whN at h ⊢
    split at h
    · rename_i δ1 e1
      split at h
      · exact whN_more c body n _ r h
      · exact whN_more c body n _ r h
      · exact h
      · exact h
    · exact h
    · exact h
    · exact h
theorem whN_le (c : Env → TRes) (body : SV) {n m : Nat} {δ : Env} {r : SRes} (h : whN c body n δ = some r) (hm : n ≤ m) : whN c body m δ = some r := by
  induction hm with
  | refl => exact h
  | step _ ih => exact whN_more _ _ _ _ _ ih
theorem whN_uniq (c : Env → TRes) (body : SV) {n m : Nat} {δ : Env} {r q : SRes} (h : whN c body n δ = some r) (h' : whN c body m δ = some q) : r = q := by
  have a := whN_le c body h (Nat.le_max_left n m)
  have b := whN_le c body h' (Nat.le_max_right n m)
  rw [a] at b; exact Option.some.inj b
open Classical in
noncomputable def sWh (c : Env → TRes) (body : SV) : SV := fun δ => if h : ∃ n r, whN c body n δ = some r then Classical.choose (Classical.choose_spec h) else .bad
theorem sWh_eq {c : Env → TRes} {body : SV} {n : Nat} {δ : Env} {r : SRes} (h : whN c body n δ = some r) : sWh c body δ = r := by
  have ex : ∃ n r, whN c body n δ = some r := ⟨n, r, h⟩
  unfold sWh
  rw [dif_pos ex]
  exact whN_uniq c body (Classical.choose_spec (Classical.choose_spec ex)) h
theorem sWh_turn (c : Env → TRes) (body : SV) (δ : Env) : sWh c body δ = match c δ with
    | .ok true δ1 => (match body δ1 with
      | .nx δ2 => sWh c body δ2
      | .cnt δ2 => sWh c body δ2
      | .brk δ2 => .nx δ2
      | r => r)
    | .ok false δ1 => .nx δ1
    | .exc x δ1 => .exc x δ1
    | .bad => .bad := by
  have again : ∀ δ2, (∀ n, whN c body (n + 1) δ = whN c body n δ2) → sWh c body δ = sWh c body δ2 := by
    intro δ2 h
    by_cases ex : ∃ n r, whN c body n δ2 = some r
    · obtain ⟨n, r, hn⟩ := ex
      rw [sWh_eq hn, sWh_eq ((h n).trans hn)]
    · have ex2 : ¬ ∃ n r, whN c body n δ = some r := by
        rintro ⟨n, r, hn⟩
        cases n with
        | zero => cases hn
        | succ n => exact ex ⟨n, r, (h n).symm.trans hn⟩
      unfold sWh
      rw [dif_neg ex, dif_neg ex2]
  split
  · rename_i δ1 e1
    split
    · rename_i δ2 e2; exact again δ2 fun n => by rw [whN, e1]; simp only [e2]
    · rename_i δ2 e2; exact again δ2 fun n => by rw [whN, e1]; simp only [e2]
    · rename_i δ2 e2; exact sWh_eq (n := 1) (by rw [whN, e1]; simp only [e2])
    · rename_i h1 h2 h3
      refine sWh_eq (n := 1) ?_
      rw [whN, e1]
      simp only
  · rename_i δ1 e1; exact sWh_eq (n := 1) (by rw [whN, e1])
  · rename_i x δ1 e1; exact sWh_eq (n := 1) (by rw [whN, e1])
  · rename_i e1; exact sWh_eq (n := 1) (by rw [whN, e1])
variable {c : Expr} {fc : Env → TRes}
theorem ds_while (hp : PassesOwn (model X.prog X.w) X.A X.env X.xe) (hc : DT X W c fc) (hb : DSs X W F body fb) : DS X W F (.While c body [] pos) (sWh fc fb) := by
  obtain ⟨tc, pc, qc⟩ := hc.ex
  obtain ⟨tb, pb, qb⟩ := hb.ex
  refine ⟨_, ps_while hp pc pb, fun σ H δ L R D s ok => ?_⟩
  have ex : ∃ n r, whN fc fb n δ = some r := by
    refine Classical.byContradiction fun z => ?_
    unfold sWh at ok
    rw [dif_neg z] at ok
    exact ok
  obtain ⟨n, r, hn⟩ := ex
  rw [sWh_eq hn] at ok
  refine ⟨fun m σ H => ∃ δ L r, SR X.K σ H δ L R ∧ whN fc fb m δ = some r ∧ SOk X W F σ H L R D r, ⟨n, δ, L, r, s, hn, ok⟩, ?_⟩
  rintro m σ1 H1 ⟨δ1, L1, r1, s1, h1, ok1⟩
  cases m with
  | zero => cases h1
  | succ m =>
    unfold whN at h1
    refine qc σ1 H1 δ1 L1 R _ s1 ?_
    cases e1 : fc δ1 with
    | bad => rw [e1] at h1; cases h1; exact ok1
    | exc x δ' => rw [e1] at h1; cases h1; exact XOk.st ok1
    | ok b δ2 =>
      rw [e1] at h1
      intro H2 L2 k2 w2 s2
      cases b with
      | false => cases h1; exact iteF (ok1 σ1 H2 L2 k2 w2 s2 Fix.refl)
      | true =>
        refine iteT ⟨fun σ' H' => ∃ δ L r, SR X.K σ' H' δ L R ∧ whN fc fb m δ = some r ∧ SOk X W F σ' H' L R D r, fun σ' H' n => ⟨m, Nat.lt_succ_self m, n⟩, qb σ1 H2 δ2 L2 R _ s2 ?_⟩
        simp only at h1
        cases e2 : fb δ2 with
        | nx δ3 => rw [e2] at h1; exact fun σ' H' L' k' w' s' f' => ⟨δ3, L', r1, s', h1, SOk.same (k2.trans w2 k') (Nw.trans k2 w2 w') f' ok1⟩
        | cnt δ3 => rw [e2] at h1; exact fun σ' H' L' k' w' s' f' => ⟨δ3, L', r1, s', h1, SOk.same (k2.trans w2 k') (Nw.trans k2 w2 w') f' ok1⟩
        | brk δ3 => rw [e2] at h1; cases h1; exact NOk.same k2 w2 Fix.refl ok1
        | ret m d δ3 => rw [e2] at h1; cases h1; exact SOk.same (D := D) k2 w2 Fix.refl ok1
        | exc x δ3 => rw [e2] at h1; cases h1; exact SOk.same (D := D) k2 w2 Fix.refl ok1
        | bad => rw [e2] at h1; cases h1; exact ok1
end
end DL
namespace DL
open PySem PySem.Spec L2
open PyProof.Rows hiding St
theorem PathV.uniq {K : PySem.W.Frag} {H : Hp} : ∀ {p : List Nat} {v w u : V}, PathV K H v p w → PathV K H v p u → w = u
  | [], v, w, u, h, h' => h.symm.trans h'
  | i :: p, v, w, u, h, h' => by
    obtain ⟨a, vs, x, rfl, e1, e2, e3⟩ := h
    obtain ⟨b, us, y, e0, f1, f2, f3⟩ := h'
    cases e0
    rw [e1] at f1; cases f1
    rw [e2] at f2; cases f2
    exact PathV.uniq e3 f3
theorem PathV.step {K : PySem.W.Frag} {H H' : Hp} {L : As} (k : Kp H H' L) : ∀ {p : List Nat} {v w : V}, PathV K H v p w → PathV K H' v p w
  | [], v, w, h => h
  | i :: p, v, w, h => by
    obtain ⟨a, vs, x, rfl, e1, e2, e3⟩ := h
    exact ⟨a, vs, x, rfl, k.kp _ _ e1 fun z => (k.ow a z).ntup (.inl e1), e2, PathV.step k e3⟩
structure DP (X : Cx) (o : Expr) (j : Nat) (p : List Nat) : Prop where
  ex : ∃ t, PE X o t ∧ ∀ σ H v w (Q : VK), σ[j]? = some (some v) → PathV X.K H v p w → Q w H → t σ H Q
section
variable {X : Cx} {W : WX} {F : List Nat} {o e i : Expr} {fe fi : EV} {j : Nat} {p : List Nat} {pos : Pos}
theorem dp_name (h : PE X o (tVar j)) : DP X o j [] := ⟨_, h, fun σ H v w Q hv hp q => ⟨v, hv, by cases (show v = w from hp); exact q⟩⟩
theorem atI_nat' {xs : List V} {k : Nat} {v : V} (h : xs[k]? = some v) : atI xs (k : Int) = some v := atI_nat h
theorem dp_ix {k : Nat} (h : DP X o j p) (hi : PE X i (tC (.int (k : Int)))) (hs : PlainIx i) : DP X (.Subscript o i pos) j (p ++ [k]) := by
  obtain ⟨t, pt, q⟩ := h.ex
  refine ⟨_, pe_ix ix_tup pt hi hs, fun σ H v w Q hv hp hq => ?_⟩
  have split : ∀ {p : List Nat} {v w : V}, PathV X.K H v (p ++ [k]) w → ∃ u, PathV X.K H v p u ∧ ∃ a vs, u = .ref a ∧ H a = some (.tup vs) ∧ vs[k]? = some w := by
    intro p
    induction p with
    | nil =>
      intro v w h
      obtain ⟨a, vs, x, rfl, e1, e2, e3⟩ := h
      exact ⟨_, rfl, a, vs, rfl, e1, by cases (show x = w from e3); exact e2⟩
    | cons i p ih =>
      intro v w h
      obtain ⟨a, vs, x, rfl, e1, e2, e3⟩ := h
      obtain ⟨u, h1, h2⟩ := ih e3
      exact ⟨u, ⟨a, vs, x, rfl, e1, e2, h1⟩, h2⟩
  obtain ⟨u, h1, a, vs, rfl, h2, h3⟩ := split hp
  refine q σ H v _ _ hv h1 ?_
  exact ⟨a, vs, (k : Int), w, rfl, rfl, SqT.of h2, atI_nat' h3, hq⟩
theorem kp_mut {H H1 : Hp} {L L1 : As} {a : Addr} {o : HO} (k : Kp H H1 L) (w : Nw H L L1) (ha : a ∈ L1) : Kp H (upd H1 a o) L := by
  refine ⟨fun b u e n => ?_, k.ow⟩
  rw [upd_ne]
  · exact k.kp b u e n
  · intro z; subst z
    rcases w _ ha with q | q
    · exact n q
    · rw [e] at q; cases q
def joinM (k m : Nat) (d : D) : Bool := d.atom || m == k || k == 0
def sApp (j : Nat) (p : List Nat) (f : EV) : SV := fun δ => match δ[j]? with
  | some (some (_ + 1, d0)) => (match d0.at p with
    | some (.lst _) => (match f δ with
      | .ok m d δ1 => (match δ1[j]? with
        | some (some (k + 1, d1)) => (match d1.at p with
          | some (.lst ds) => if ds.length < sizeLine ∧ joinM k m d = true then .nx (δ1.set j (some (k + 1, d1.put p (.lst (ds ++ [d]))))) else .bad
          | _ => .bad)
        | _ => .bad)
      | .exc x δ' => .exc x δ'
      | .bad => .bad)
    | _ => .bad)
  | _ => .bad
theorem join_of {K : PySem.W.Frag} {H : Hp} {N : As} {k m : Nat} {d : D} {v : V} {l B : As} (h : Rp K H N m d v l) (j : joinM k m d = true) (hd : ∀ a ∈ l, a ∉ B) (hN : ∀ a, a ∈ N ↔ a ∈ B ∨ a ∈ l) :
    ∃ l1, (l1 = [] ∨ l1 = l) ∧ Rp K H (B ++ l1) k d v l1 := by
  unfold joinM at j
  by_cases a : d.atom = true
  · have := atom_any (k := 0) a h
    have z := this.zero
    subst z
    exact ⟨[], .inl rfl, (atom_any (k := k) a h).sub fun x hx => (hN x).mpr (.inl (by simpa using hx))⟩
  · simp only [a, Bool.false_or, Bool.or_eq_true, beq_iff_eq] at j
    by_cases e : m = k
    · subst e
      exact ⟨l, .inr rfl, h.sub fun x hx => (hN x).mpr (List.mem_append.mp hx)⟩
    · obtain rfl : k = 0 := by
        rcases j with j | j
        · exact absurd j e
        · exact j
      exact ⟨[], .inl rfl, by simpa using h.fz hd fun x hx => (hN x).mpr (.inl hx)⟩
theorem own_at {K : PySem.W.Frag} {σ : L2.St} {H : Hp} {δ : DL.Env} {L R : As} {m : Nat} {d : D} {ds : List D} (s : SR K σ H δ L R) (e : δ[j]? = some (some (m + 1, d))) (ea : d.at p = some (.lst ds)) :
    ∃ v a vs, σ[j]? = some (some v) ∧ PathV K H v p (.ref a) ∧ H a = some (.lst vs) := by
  obtain ⟨v, a, vs, l', L2, h1, h2, h3, _⟩ := SR.mut (lt := []) s e ea
  exact ⟨v, a, vs, h1, h2, h3⟩
theorem ds_append {apos cpos : Pos} (mk : ∀ to te, PE X o to → PE X e te → PS X (.Expr (.Call (.Attribute o "append" apos) [e] [] cpos) pos) (tDrop (tBM X.K "list" rAppend to (tCons te tNil)))) (ho : DP X o j p) (he : DE X W e fe) :
    DS X W F (.Expr (.Call (.Attribute o "append" apos) [e] [] cpos) pos) (sApp j p fe) := by
  obtain ⟨to, po, qo⟩ := ho.ex
  obtain ⟨te, pe, qe⟩ := he.ex
  refine ⟨_, mk to te po pe, fun σ H δ L R D s ok => ?_⟩
  unfold sApp at ok
  split at ok
  · rename_i m0 d0 hd0
    split at ok
    · rename_i ds0 ha0
      obtain ⟨v, a, vs0, g1, g2, g3⟩ := own_at s hd0 ha0
      refine qo σ H v (.ref a) _ g1 g2 ⟨.inl ⟨rfl, vs0, SqL.of g3⟩, ?_⟩
      refine qe σ H δ L R _ s ?_
      cases hf : fe δ with
      | bad => rw [hf] at ok; exact ok
      | exc x δ' => rw [hf] at ok; exact XOk.st ok
      | ok m d δ1 =>
        rw [hf] at ok
        simp only at ok
        intro u H1 l L1 k w s1 rp
        split at ok
        · rename_i kk d1 hd1
          split at ok
          · rename_i ds ha1
            split at ok
            · rename_i hc
              have hz : ∀ x ∈ l, x ∉ L1 ++ R := (fz_at s1).1
              obtain ⟨l1, hl1, r1⟩ := join_of (B := L1 ++ R) rp hc.2 hz (fun x => mem3.trans or_comm)
              have sub1 : l1.Sublist l := by rcases hl1 with rfl | rfl; exact List.nil_sublist _; exact List.Sublist.refl _
              have s2 : SR X.K σ H1 δ1 L1 (l1 ++ R) := s1.less (List.Sublist.append sub1 (List.Sublist.refl _))
              obtain ⟨v', a', vs, l', L2, f1, f2, f3, f4, f5, f6⟩ := SR.mut s2 hd1 ha1
              rw [g1] at f1; cases f1
              have := PathV.uniq (PathV.step k g2) f2
              cases this
              refine ⟨a, vs, u, rfl, rfl, f3, by rw [← f5.len]; exact hc.1, ?_⟩
              have r2 : Rps X.K H1 (L1 ++ (l1 ++ R)) kk [d] [u] l1 := by
                simp only [Rps]
                exact ⟨u, [], l1, [], rfl, by simp, r1.sub fun x hx => List.mem_append.mpr ((mem3.mp hx).symm), rfl, rfl⟩
              have s3 := f6 (ds ++ [d]) (vs ++ [u]) (l' ++ l1) [] (by simp) (f5.app r2)
              have al : a ∈ L1 := f4.mem_iff.mpr (by simp)
              refine ok σ _ _ (kp_mut k (w.right) al) (fun x hx => ?_) s3 Fix.refl
              rcases List.mem_append.mp hx with hx | hx
              · rcases List.mem_cons.mp hx with rfl | hx
                · exact w.right _ al
                · rcases List.mem_append.mp hx with hx | hx
                  · exact w.right x (f4.mem_iff.mpr (by simp [hx]))
                  · exact w.left x (sub1.subset hx)
              · exact w.right x (f4.mem_iff.mpr (List.mem_append_right _ hx))
            · exact ok.elim
          · exact ok.elim
        · exact ok.elim
    · exact ok.elim
  · exact ok.elim
theorem Rps.setAt {K : PySem.W.Frag} {H : Hp} {N : As} : ∀ {m : Nat} {ds : List D} {vs : List V} {l l1 : As} {d : D} {v : V} (i : Nat), Rps K H N m ds vs l → Rp K H N m d v l1 → i < ds.length → ∃ l2 rest, (l2 ++ rest).Perm (l ++ l1) ∧ Rps K H N m (ds.set i d) (vs.set i v) l2
  | m, [], vs, l, l1, d, v, i, h, r, hi => by simp at hi
  | m, x :: ds, vs, l, l1, d, v, 0, h, r, hi => by
    simp only [Rps] at h; obtain ⟨w, vr, k1, k2, rfl, rfl, r1, r2⟩ := h
    refine ⟨l1 ++ k2, k1, ?_, ?_⟩
    · refine List.perm_append_comm.trans ?_
      rw [List.append_assoc]
      exact List.Perm.append_left k1 List.perm_append_comm
    · show Rps K H N m (d :: ds) (v :: vr) _
      simp only [Rps]
      exact ⟨v, vr, l1, k2, rfl, rfl, r, r2⟩
  | m, x :: ds, vs, l, l1, d, v, i + 1, h, r, hi => by
    simp only [Rps] at h; obtain ⟨w, vr, k1, k2, rfl, rfl, r1, r2⟩ := h
    obtain ⟨l2, rest, p1, p2⟩ := Rps.setAt i r2 r (by simpa using hi)
    refine ⟨k1 ++ l2, rest, ?_, ?_⟩
    · rw [List.append_assoc, List.append_assoc]
      exact List.Perm.append_left k1 p1
    · show Rps K H N m (x :: ds.set i d) (w :: vr.set i v) _
      simp only [Rps]
      exact ⟨w, _, k1, l2, rfl, rfl, r1, p2⟩
def sStore (j : Nat) (p : List Nat) (fi f : EV) : SV := fun δ => match f δ with
  | .ok m d δ1 => (match δ1[j]? with
    | some (some (_ + 1, d0)) => (match d0.at p with
      | some (.lst _) => (match fi δ1 with
        | .ok _ (.int i) δ2 => (match δ2[j]? with
          | some (some (k + 1, d1)) => (match d1.at p with
            | some (.lst ds) => (match ixN ds.length i with
              | some n => if joinM k m d = true then .nx (δ2.set j (some (k + 1, d1.put p (.lst (ds.set n d))))) else .bad
              | none => .bad)
            | _ => .bad)
          | _ => .bad)
        | .exc x δ' => .exc x δ'
        | _ => .bad)
      | _ => .bad)
    | _ => .bad)
  | .exc x δ' => .exc x δ'
  | .bad => .bad
theorem ixN_lt {n : Nat} {i : Int} {j : Nat} (h : ixN n i = some j) : j < n := (ixN_seq h).2.1
theorem ds_store {spos : Pos} (mk : ∀ to ti te, PE X o to → PE X i ti → PE X e te → PS X (.Assign [.Subscript o i spos] e pos) (tAsg te (L2.gSub to ti rSetL))) (ho : DP X o j p) (hi : DE X W i fi) (he : DE X W e fe) :
    DS X W F (.Assign [.Subscript o i spos] e pos) (sStore j p fi fe) := by
  obtain ⟨to, po, qo⟩ := ho.ex
  obtain ⟨ti, pi, qi⟩ := hi.ex
  obtain ⟨te, pe, qe⟩ := he.ex
  refine ⟨_, mk to ti te po pi pe, fun σ H δ L R D s ok => ?_⟩
  refine qe σ H δ L R _ s ?_
  unfold sStore at ok
  cases hf : fe δ with
  | bad => rw [hf] at ok; exact ok
  | exc x δ' => rw [hf] at ok; exact XOk.st ok
  | ok m d δ1 =>
    rw [hf] at ok
    simp only at ok
    intro u H1 l L1 k w s1 rp
    split at ok
    · rename_i m0 d0 hd0
      split at ok
      · rename_i ds0 ha0
        obtain ⟨v, a, vs0, g1, g2, g3⟩ := own_at s1 hd0 ha0
        refine qo σ H1 v (.ref a) _ g1 g2 ?_
        refine qi σ H1 δ1 L1 (l ++ R) _ s1 ?_
        cases hf2 : fi δ1 with
        | bad => rw [hf2] at ok; exact ok
        | exc x δ' => rw [hf2] at ok; exact XOk.more k w (XOk.st ok)
        | ok mi di δ2 =>
          rw [hf2] at ok
          intro vi H2 l2 L2 k2 w2 s2 ri
          cases di with
          | int ii =>
            simp only at ok
            split at ok
            · rename_i kk d1 hd1
              split at ok
              · rename_i ds ha1
                split at ok
                · rename_i n hn
                  split at ok
                  · rename_i hc
                    -- the index owns nothing
                    have zi : vi = .int ii ∧ l2 = [] := by simpa only [Rp] using ri
                    obtain ⟨rfl, rfl⟩ := zi
                    simp only [List.nil_append] at s2 ri w2
                    obtain ⟨z1, z2⟩ := tmp_step (l2 := []) s1 k2 (by simpa using w2)
                    have rp2 := rp.step k2 (fun a ha => List.mem_append_left _ ha) (by simpa using z2) z1
                    have hz : ∀ x ∈ l, x ∉ L2 ++ R := (fz_at s2).1
                    obtain ⟨l1, hl1, r1⟩ := join_of (B := L2 ++ R) rp2 hc hz (fun x => mem3.trans or_comm)
                    have sub1 : l1.Sublist l := by rcases hl1 with rfl | rfl; exact List.nil_sublist _; exact List.Sublist.refl _
                    have s2' : SR X.K σ H2 δ2 L2 (l1 ++ R) := s2.less (List.Sublist.append sub1 (List.Sublist.refl _))
                    obtain ⟨v', a', vs, l', L3, f1, f2, f3, f4, f5, f6⟩ := SR.mut s2' hd1 ha1
                    rw [g1] at f1; cases f1
                    have := PathV.uniq (PathV.step k2 g2) f2
                    cases this
                    refine ⟨a, vs, ii, n, rfl, rfl, f3, by rw [← f5.len]; exact hn, ?_⟩
                    have r2 : Rp X.K H2 (L2 ++ (l1 ++ R)) kk d u l1 := r1.sub fun x hx => List.mem_append.mpr ((mem3.mp hx).symm)
                    obtain ⟨lq, rest, p1, p2⟩ := Rps.setAt n f5 r2 (ixN_lt hn)
                    have s3 := f6 _ _ lq rest p1 p2
                    have al : a ∈ L2 := f4.mem_iff.mpr (by simp)
                    have w12 : Nw H L L2 := Nw.trans k w.right w2
                    have k12 := k.trans w.right k2
                    refine ok σ _ _ (kp_mut k12 w12 al) (fun x hx => ?_) s3 Fix.refl
                    rcases List.mem_append.mp hx with hx | hx
                    · rcases List.mem_cons.mp hx with rfl | hx
                      · exact w12 _ al
                      · have : x ∈ l' ++ l1 := p1.mem_iff.mp (List.mem_append_left _ hx)
                        rcases List.mem_append.mp this with hx | hx
                        · exact w12 x (f4.mem_iff.mpr (by simp [hx]))
                        · exact w.left x (sub1.subset hx)
                    · exact w12 x (f4.mem_iff.mpr (List.mem_append_right _ hx))
                  · exact ok.elim
                · exact ok.elim
              · exact ok.elim
            · exact ok.elim
          | _ => exact ok.elim
      · exact ok.elim
    · exact ok.elim
end
end DL
namespace DL
open PySem PySem.Spec L2
open PyProof.Rows hiding St
inductive FRes where
  | ok (m : Nat) (d : D) (outs : List D) | exc (x : XD) (outs : List D) | bad
abbrev FV := List D → FRes
def RpM (K : PySem.W.Frag) (H : Hp) (N : As) : List Nat → List D → List V → As → Prop
  | [], ds, vs, l => ds = [] ∧ vs = [] ∧ l = []
  | m :: ms, ds, vs, l => ∃ d dr v vr l1 l2, ds = d :: dr ∧ vs = v :: vr ∧ l = l1 ++ l2 ∧ Rp K H N m d v l1 ∧ RpM K H N ms dr vr l2
def RpO (K : PySem.W.Frag) (H : Hp) (N : As) : List Nat → List D → List V → As → Prop
  | [], outs, vs, l => outs = [] ∧ vs = [] ∧ l = []
  | 0 :: ms, outs, vs, l => ∃ v vr, vs = v :: vr ∧ RpO K H N ms outs vr l
  | (m + 1) :: ms, outs, vs, l => ∃ d dr v vr l1 l2, outs = d :: dr ∧ vs = v :: vr ∧ l = l1 ++ l2 ∧ Rp K H N (m + 1) d v l1 ∧ RpO K H N ms dr vr l2
def spD (K : PySem.W.Frag) (mg : Str → Option Value) (pm : List Nat) (φ : FV) : Sp := fun vs H Q E => ∃ ds l R, RpM K H (l ++ R) pm ds vs l ∧ (l ++ R).Nodup ∧ (∀ a ∈ R, IsOwn H a) ∧
  match φ ds with
  | .ok m d outs => ∀ v H' l2 L', Kp H H' l → Nw H l (l2 ++ L') → (L' ++ (l2 ++ R)).Nodup → (∀ a ∈ l2 ++ R, IsOwn H' a) → Rp K H' (L' ++ (l2 ++ R)) m d v l2 → RpO K H' (L' ++ (l2 ++ R)) pm outs vs L' → Q v H'
  | .exc x outs => ∀ c dx H' L', Kp H H' l → Nw H l L' → (L' ++ R).Nodup → (∀ a ∈ R, IsOwn H' a) → XRel K mg H' (L' ++ R) x c dx → RpO K H' (L' ++ R) pm outs vs L' → E c dx H'
  | .bad => False
theorem RpM.len {K : PySem.W.Frag} {H : Hp} {N : As} : ∀ {pm : List Nat} {ds : List D} {vs : List V} {l : As}, RpM K H N pm ds vs l → vs.length = pm.length
  | [], _, _, _, h => by rw [h.2.1]; rfl
  | m :: ms, _, _, _, h => by obtain ⟨d, dr, v, vr, l1, l2, _, rfl, _, _, r⟩ := h; simp [RpM.len r]
def startD (pm : List Nat) (ds : List D) (n : Nat) : DL.Env := (List.zipWith (fun m d => some (m, d)) pm ds) ++ List.replicate (n - pm.length) none
def outsOf : List Nat → DL.Env → Option (List D)
  | [], _ => some []
  | 0 :: ms, _ :: δ => outsOf ms δ
  | (m + 1) :: ms, some (k, d) :: δ => if k = m + 1 then (outsOf ms δ).map (d :: ·) else none
  | _, _ => none
def lentsOf : Nat → List Nat → List Nat
  | _, [] => []
  | i, 0 :: ms => lentsOf (i + 1) ms
  | i, (_ + 1) :: ms => i :: lentsOf (i + 1) ms
def runF (pm : List Nat) (n : Nat) (f : SV) : FV := fun ds => match f (startD pm ds n) with
  | .nx δ => (match outsOf pm δ with
    | some outs => .ok 0 .non outs
    | none => .bad)
  | .ret m d δ => (match outsOf pm δ with
    | some outs => .ok m d outs
    | none => .bad)
  | .exc x δ => (match outsOf pm δ with
    | some outs => .exc x outs
    | none => .bad)
  | _ => .bad
theorem srs_none {K : PySem.W.Frag} {H : Hp} {N : As} : ∀ n : Nat, SRs K H N (List.replicate n none) (List.replicate n none) []
  | 0 => ⟨rfl, rfl⟩
  | n + 1 => ⟨none, List.replicate n none, rfl, srs_none n⟩
theorem startD_cons (m : Nat) (ms : List Nat) (d : D) (ds : List D) (n : Nat) : startD (m :: ms) (d :: ds) (n + 1) = some (m, d) :: startD ms ds n := by
  unfold startD
  simp
theorem srs_start {K : PySem.W.Frag} {H : Hp} {N : As} : ∀ {pm : List Nat} {ds : List D} {vs : List V} {l : As} (n : Nat), RpM K H N pm ds vs l → pm.length ≤ n → SRs K H N (startD pm ds n) (vs.map some ++ List.replicate (n - vs.length) none) l
  | [], ds, vs, l, n, h, _ => by
    obtain ⟨rfl, rfl, rfl⟩ := h
    simpa [startD] using srs_none n
  | m :: ms, ds, vs, l, 0, h, hn => by simp at hn
  | m :: ms, ds, vs, l, n + 1, h, hn => by
    obtain ⟨d, dr, v, vr, l1, l2, rfl, rfl, rfl, r1, r2⟩ := h
    rw [startD_cons]
    have e : (v :: vr).map some ++ List.replicate (n + 1 - (v :: vr).length) none = some v :: (vr.map some ++ List.replicate (n - vr.length) none) := by simp
    rw [e]
    exact ⟨v, _, l1, l2, rfl, rfl, r1, srs_start n r2 (by simpa using hn)⟩
theorem rpo_of {K : PySem.W.Frag} {H : Hp} {N : As} : ∀ {pm : List Nat} {outs : List D} {vs : List V} {δ : DL.Env} {σ : L2.St} {l : As}, SRs K H N δ σ l → outsOf pm δ = some outs → vs.length = pm.length →
    (∀ i, i ∈ lentsOf 0 pm → σ[i]? = (vs.map some)[i]?) → ∃ l', l'.Sublist l ∧ RpO K H N pm outs vs l'
  | [], outs, vs, δ, σ, l, h, e, hl, hf => by
    have : vs = [] := List.length_eq_zero_iff.mp hl
    subst this
    have : [] = outs := by simpa [outsOf] using e
    subst this
    exact ⟨[], List.nil_sublist _, rfl, rfl, rfl⟩
  | 0 :: ms, outs, [], δ, σ, l, h, e, hl, hf => by simp at hl
  | (m + 1) :: ms, outs, [], δ, σ, l, h, e, hl, hf => by simp at hl
  | 0 :: ms, outs, v :: vr, [], σ, l, h, e, hl, hf => by simp [outsOf] at e
  | 0 :: ms, outs, v :: vr, x :: δ, σ, l, h, e, hl, hf => by
    have lift : ∀ i, i ∈ lentsOf 0 ms → i + 1 ∈ lentsOf 0 (0 :: ms) := fun i hi => by
      have sh : ∀ (k : Nat) (ms : List Nat) (i : Nat), i ∈ lentsOf k ms → i + 1 ∈ lentsOf (k + 1) ms := by
        intro k ms
        induction ms generalizing k with
        | nil => intro i h; simp [lentsOf] at h
        | cons m ms ih =>
          intro i h
          cases m with
          | zero => exact ih (k + 1) i h
          | succ m =>
            simp only [lentsOf, List.mem_cons] at h ⊢
            rcases h with rfl | h
            · exact .inl rfl
            · exact .inr (ih (k + 1) i h)
      exact sh 0 ms i hi
    cases x with
    | none =>
      obtain ⟨y, σ', rfl, r⟩ := h
      obtain ⟨l', s1, s2⟩ := rpo_of r (by simpa [outsOf] using e) (by simpa using hl) fun i hi => by simpa using hf (i + 1) (lift i hi)
      exact ⟨l', s1, v, vr, rfl, s2⟩
    | some q =>
      obtain ⟨w, σ', l1, l2, rfl, rfl, r1, r⟩ := h
      obtain ⟨l', s1, s2⟩ := rpo_of r (by simpa [outsOf] using e) (by simpa using hl) fun i hi => by simpa using hf (i + 1) (lift i hi)
      exact ⟨l', s1.trans (List.sublist_append_right _ _), v, vr, rfl, s2⟩
  | (m + 1) :: ms, outs, v :: vr, [], σ, l, h, e, hl, hf => by simp [outsOf] at e
  | (m + 1) :: ms, outs, v :: vr, none :: δ, σ, l, h, e, hl, hf => by simp [outsOf] at e
  | (m + 1) :: ms, outs, v :: vr, some (k, d) :: δ, σ, l, h, e, hl, hf => by
    have lift : ∀ i, i ∈ lentsOf 0 ms → i + 1 ∈ lentsOf 0 ((m + 1) :: ms) := fun i hi => by
      have sh : ∀ (k : Nat) (ms : List Nat) (i : Nat), i ∈ lentsOf k ms → i + 1 ∈ lentsOf (k + 1) ms := by
        intro k ms
        induction ms generalizing k with
        | nil => intro i h; simp [lentsOf] at h
        | cons m ms ih =>
          intro i h
          cases m with
          | zero => exact ih (k + 1) i h
          | succ m =>
            simp only [lentsOf, List.mem_cons] at h ⊢
            rcases h with rfl | h
            · exact .inl rfl
            · exact .inr (ih (k + 1) i h)
      simp only [lentsOf, List.mem_cons]
      exact .inr (sh 0 ms i hi)
    obtain ⟨w, σ', l1, l2, rfl, rfl, r1, r⟩ := h
    simp only [outsOf] at e
    split at e
    · rename_i hk
      subst hk
      simp only [Option.map_eq_some_iff] at e
      obtain ⟨o', e1, rfl⟩ := e
      obtain ⟨l', s1, s2⟩ := rpo_of r e1 (by simpa using hl) fun i hi => by simpa using hf (i + 1) (lift i hi)
      have : w = v := by
        have := hf 0 (by simp [lentsOf])
        simpa using this
      subst this
      exact ⟨l1 ++ l', List.Sublist.append (List.Sublist.refl _) s1, d, o', w, vr, l1, l', rfl, rfl, rfl, r1, s2⟩
    · cases e
theorem RpO.sub {K : PySem.W.Frag} {H : Hp} {N N' : As} (hN : ∀ a ∈ N', a ∈ N) : ∀ {pm : List Nat} {outs : List D} {vs : List V} {l : As}, RpO K H N pm outs vs l → RpO K H N' pm outs vs l
  | [], _, _, _, h => h
  | 0 :: ms, _, _, _, h => by obtain ⟨v, vr, e, h⟩ := h; exact ⟨v, vr, e, h.sub hN⟩
  | (m + 1) :: ms, _, _, _, h => by
    obtain ⟨d, dr, v, vr, l1, l2, e1, e2, e3, r1, r2⟩ := h
    exact ⟨d, dr, v, vr, l1, l2, e1, e2, e3, r1.sub hN, r2.sub hN⟩
theorem outs_at {K : PySem.W.Frag} {σ0 σ' : L2.St} {H' : Hp} {δ' : DL.Env} {L' R : As} {pm : List Nat} {outs : List D} {vs : List V} (s : SR K σ' H' δ' L' R) (e : outsOf pm δ' = some outs) (hl : vs.length = pm.length) (fx : Fix (lentsOf 0 pm) σ0 σ')
    (h0 : ∀ i, i ∈ lentsOf 0 pm → σ0[i]? = (vs.map some)[i]?) : ∃ l', (∀ a ∈ l', a ∈ L') ∧ (l' ++ R).Nodup ∧ RpO K H' (l' ++ R) pm outs vs l' := by
  obtain ⟨l, p, r⟩ := s.rel
  obtain ⟨l', s1, s2⟩ := rpo_of r e hl fun i hi => (fx i hi).trans (h0 i hi)
  refine ⟨l', fun a ha => p.mem_iff.mp (s1.subset ha), ?_, s2.sub fun a ha => ?_⟩
  · exact ((List.Perm.append_right R p).nodup_iff.mpr s.nd).sublist (List.Sublist.append s1 (List.Sublist.refl _))
  · exact (List.mem_append.mp ha).elim (fun q => List.mem_append_left _ (p.mem_iff.mp (s1.subset q))) fun q => List.mem_append_right _ q
theorem lents_lt : ∀ (k : Nat) (pm : List Nat) (i : Nat), i ∈ lentsOf k pm → i < k + pm.length
  | k, [], i, h => by simp [lentsOf] at h
  | k, 0 :: ms, i, h => by have := lents_lt (k + 1) ms i h; simp; omega
  | k, (m + 1) :: ms, i, h => by
    simp only [lentsOf, List.mem_cons] at h
    rcases h with rfl | h
    · simp
    · have := lents_lt (k + 1) ms i h; simp; omega
section
variable {P : Program} {w : World} {K : PySem.W.Frag} {mg : Str → Option Value} {base : Heap}
abbrev WF (E : XK) : WX := fun c d _ H => E c d H
theorem fn_D {x qual : Str} {st : Stmt} {f : Addr} {fd : FuncData} {N ps : List Str} {k : Nat} {pm : List Nat} {body : SV} (Fn : Fun K x qual st f fd) (S : FnScope N ps (defScope st)) (hl : pm.length = ps.length)
    (hbody : ∀ (cdv : Value) (A : Around) (outer : List PySem.Env) (s : Shared) (H : Hp) (E : XK), Room k (A.deeper (envOfC qual (defScope st) s.heap.objs.size f cdv)) →
      DSs (cxOf (L2.CX P w) P w K mg base N qual (defScope st) f cdv A outer s H E) (WF E) (lentsOf 0 pm) (defBody st) body) :
    FnOk P w K mg base (L2.CX P w) (k + 1) f fd ps (spD K mg pm (runF pm N.length body)) := by
  have hN : pm.length ≤ N.length := by
    have := congrArg List.length S.pre
    rw [List.length_take] at this; omega
  refine Fn.okX S (fun vs H Q E h => ?_) fun cdv A outer s H vs Q E hr hsp => ?_
  · obtain ⟨ds, l, R, h, _⟩ := h
    rw [h.len, hl]
  · obtain ⟨t, p, q⟩ := (hbody cdv A outer s H E hr).ex
    refine ⟨t, p, ?_⟩
    obtain ⟨ds, l, R, ha, nd, tr, hq⟩ := hsp
    have hvl := ha.len
    have sr : SR K (start N vs) H (startD pm ds N.length) l R := ⟨⟨l, List.Perm.refl _, srs_start N.length ha hN⟩, nd, tr⟩
    have h0 : ∀ i, i ∈ lentsOf 0 pm → (start N vs)[i]? = (vs.map some)[i]? := fun i hi => by
      have := lents_lt 0 pm i hi
      unfold L2.start
      rw [List.getElem?_append_left (by simp; omega)]
    refine q _ H _ l R _ sr ?_
    unfold runF at hq
    cases hb : body (startD pm ds N.length) with
    | nx δ' =>
      rw [hb] at hq
      simp only at hq
      cases ho : outsOf pm δ' with
      | none => rw [ho] at hq; exact hq.elim
      | some outs =>
        rw [ho] at hq
        intro σ' H' L' k1 w1 s1 fx
        obtain ⟨l', m1, m2, m3⟩ := outs_at s1 ho hvl fx h0
        exact hq .non H' [] l' k1 (Nw.both (fun _ z => by cases z) fun a h => w1 a (m1 a h)) m2 s1.tr (by simp [Rp]) m3
    | ret m d δ' =>
      rw [hb] at hq
      simp only at hq
      cases ho : outsOf pm δ' with
      | none => rw [ho] at hq; exact hq.elim
      | some outs =>
        rw [ho] at hq
        intro v σ' H' l2 L' k1 w1 s1 fx rp
        obtain ⟨l', m1, m2, m3⟩ := outs_at s1 ho hvl fx h0
        refine hq v H' l2 l' k1 (Nw.both w1.left fun a h => w1.right a (m1 a h)) m2 s1.tr (rp.sub fun a ha => ?_) m3
        exact (List.mem_append.mp ha).elim (fun z => List.mem_append_left _ (m1 a z)) fun z => List.mem_append_right _ z
    | exc x δ' =>
      rw [hb] at hq
      simp only at hq
      cases ho : outsOf pm δ' with
      | none => rw [ho] at hq; exact hq.elim
      | some outs =>
        rw [ho] at hq
        intro c dx σ' H' L' k1 w1 s1 fx rx
        obtain ⟨l', m1, m2, m3⟩ := outs_at s1 ho hvl fx h0
        refine hq c dx H' l' k1 (fun a h => w1 a (m1 a h)) m2 s1.tr (rx.step Kp.refl (fun _ z => by cases z) fun a ha => .inl ?_) m3
        exact (List.mem_append.mp ha).elim (fun z => List.mem_append_left _ (m1 a z)) fun z => List.mem_append_right _ z
    | brk δ' => rw [hb] at hq; exact hq.elim
    | cnt δ' => rw [hb] at hq; exact hq.elim
    | bad => rw [hb] at hq; exact hq.elim
end
end DL
namespace DL
open PySem PySem.Spec L2
open PyProof.Rows hiding St
def RpC (K : PySem.W.Frag) (H : Hp) (N : As) (σ : L2.St) : List (Option Nat) → List (Nat × D) → List V → As → Prop
  | [], ps, vs, l => ps = [] ∧ vs = [] ∧ l = []
  | none :: ks, ps, vs, l => ∃ p pr v vr l1 l2, ps = p :: pr ∧ vs = v :: vr ∧ l = l1 ++ l2 ∧ Rp K H N p.1 p.2 v l1 ∧ RpC K H N σ ks pr vr l2
  | some j :: ks, ps, vs, l => ∃ v vr, vs = v :: vr ∧ σ[j]? = some (some v) ∧ RpC K H N σ ks ps vr l
def COk (X : Cx) (W : WX) (σ : L2.St) (H : Hp) (L R : As) (ks : List (Option Nat)) (Q : List V → Hp → Prop) : ARes → Prop
  | .ok ps δ' => ∀ vs H' l L', Kp H H' L → Nw H L (l ++ L') → SR X.K σ H' δ' L' (l ++ R) → RpC X.K H' (L' ++ (l ++ R)) σ ks ps vs l → Q vs H'
  | .exc x δ' => XOk X W σ H L R x δ'
  | .bad => False
structure DC (X : Cx) (W : WX) (es : List Expr) (ks : List (Option Nat)) (f : DL.Env → ARes) : Prop where
  ex : ∃ t, PA X es t ∧ ∀ σ H δ L R Q, SR X.K σ H δ L R → COk X W σ H L R ks Q (f δ) → t σ H Q
theorem RpC.sub {K : PySem.W.Frag} {H : Hp} {N N' : As} {σ : L2.St} (hN : ∀ a ∈ N', a ∈ N) : ∀ {ks : List (Option Nat)} {ps : List (Nat × D)} {vs : List V} {l : As}, RpC K H N σ ks ps vs l → RpC K H N' σ ks ps vs l
  | [], _, _, _, h => h
  | none :: ks, _, _, _, h => by
    obtain ⟨p, pr, v, vr, l1, l2, e1, e2, e3, r1, r2⟩ := h
    exact ⟨p, pr, v, vr, l1, l2, e1, e2, e3, r1.sub hN, r2.sub hN⟩
  | some j :: ks, _, _, _, h => by
    obtain ⟨v, vr, e1, e2, r⟩ := h
    exact ⟨v, vr, e1, e2, r.sub hN⟩
def fzP : List Nat → List (Option Nat) → List (Nat × D) → List (Nat × D)
  | 0 :: ms, none :: ks, p :: ps => (0, p.2) :: fzP ms ks ps
  | _ :: ms, none :: ks, p :: ps => p :: fzP ms ks ps
  | _ :: ms, some _ :: ks, ps => fzP ms ks ps
  | _, _, ps => ps
theorem RpC.fzp {K : PySem.W.Frag} {H : Hp} {N : As} {σ : L2.St} : ∀ {pm : List Nat} {ks : List (Option Nat)} {ps : List (Nat × D)} {vs : List V} {l : As}, RpC K H N σ ks ps vs l →
    ∃ lk ld : As, (lk ++ ld).Perm l ∧ ∀ N' : As, (∀ a ∈ N', a ∈ N) → (∀ a ∈ ld, a ∉ N') → RpC K H N' σ ks (fzP pm ks ps) vs lk
  | pm, [], ps, vs, l, h => by
    obtain ⟨rfl, rfl, rfl⟩ := h
    exact ⟨[], [], List.Perm.refl _, fun N' _ _ => by cases pm <;> exact ⟨by simp [fzP], rfl, rfl⟩⟩
  | [], none :: ks, ps, vs, l, h => ⟨l, [], by simp, fun N' hN _ => by
      have e : fzP [] (none :: ks) ps = ps := by cases ps <;> rfl
      rw [e]; exact h.sub hN⟩
  | [], some j :: ks, ps, vs, l, h => ⟨l, [], by simp, fun N' hN _ => by
      have e : fzP [] (some j :: ks) ps = ps := by cases ps <;> rfl
      rw [e]; exact h.sub hN⟩
  | m :: ms, some j :: ks, ps, vs, l, h => by
    obtain ⟨v, vr, e1, e2, r⟩ := h
    obtain ⟨lk, ld, p1, p2⟩ := RpC.fzp (pm := ms) r
    refine ⟨lk, ld, p1, fun N' hN hd => ?_⟩
    have e : fzP (m :: ms) (some j :: ks) ps = fzP ms ks ps := by cases m <;> rfl
    rw [e]
    exact ⟨v, vr, e1, e2, p2 N' hN hd⟩
  | 0 :: ms, none :: ks, ps, vs, l, h => by
    obtain ⟨p, pr, v, vr, l1, l2, rfl, e2, rfl, r1, r2⟩ := h
    obtain ⟨lk, ld, p1, p2⟩ := RpC.fzp (pm := ms) r2
    refine ⟨lk, l1 ++ ld, ?_, fun N' hN hd => ?_⟩
    · refine List.Perm.trans ?_ (List.Perm.append_left l1 p1)
      rw [← List.append_assoc, ← List.append_assoc]
      exact List.Perm.append_right ld List.perm_append_comm
    · exact ⟨(0, p.2), _, v, vr, [], lk, rfl, e2, rfl, r1.fz (fun a ha => hd a (List.mem_append_left _ ha)) hN, p2 N' hN fun a ha => hd a (List.mem_append_right _ ha)⟩
  | (m + 1) :: ms, none :: ks, ps, vs, l, h => by
    obtain ⟨p, pr, v, vr, l1, l2, rfl, e2, rfl, r1, r2⟩ := h
    obtain ⟨lk, ld, p1, p2⟩ := RpC.fzp (pm := ms) r2
    refine ⟨l1 ++ lk, ld, ?_, fun N' hN hd => ?_⟩
    · rw [List.append_assoc]; exact List.Perm.append_left l1 p1
    · exact ⟨p, _, v, vr, l1, lk, rfl, e2, rfl, r1.sub hN, p2 N' hN hd⟩
section
variable {X : Cx} {W : WX} {e : Expr} {es : List Expr} {fe : EV} {ks : List (Option Nat)} {g : DL.Env → ARes} {j : Nat}
theorem dc_nil : DC X W [] [] aNil := ⟨tNil, pa_nil, fun σ H δ L R Q s ok => ok [] H [] L s.kp Nw_nil s ⟨rfl, rfl, rfl⟩⟩
theorem dc_val (ha : DE X W e fe) (hr : DC X W es ks g) (hs : starEach (e :: es) X.env = (false, eval e X.env) :: starEach es X.env) : DC X W (e :: es) (none :: ks) (aCons fe g) := by
  obtain ⟨ta, pa, qa⟩ := ha.ex
  obtain ⟨tr, pr, qr⟩ := hr.ex
  refine ⟨tCons ta tr, pa_cons pa pr hs, fun σ H δ L R Q s ok => ?_⟩
  unfold aCons at ok
  refine qa σ H δ L R _ s ?_
  cases e1 : fe δ with
  | bad => rw [e1] at ok; exact ok
  | exc x δ' => rw [e1] at ok; exact ok
  | ok m d δ1 =>
    rw [e1] at ok
    simp only at ok
    intro v H1 l1 L1 k1 w1 s1 r1
    refine qr σ H1 δ1 L1 (l1 ++ R) _ s1 ?_
    cases e2 : g δ1 with
    | bad => rw [e2] at ok; exact ok
    | exc x δ' => rw [e2] at ok; exact XOk.more k1 w1 ok
    | ok ds δ2 =>
      rw [e2] at ok
      intro vs H2 l2 L2 k2 w2 s2 r2
      obtain ⟨z1, z2⟩ := tmp_step s1 k2 w2
      have a1 : Nw H L (l2 ++ L2) := Nw.trans k1 w1.right w2
      have pm : ∀ {A : As}, (l2 ++ (l1 ++ A)).Perm ((l1 ++ l2) ++ A) := fun {A} => by
        rw [← List.append_assoc]; exact List.Perm.append_right A List.perm_append_comm
      have hN : ∀ a ∈ L2 ++ (l1 ++ l2 ++ R), a ∈ L2 ++ (l2 ++ (l1 ++ R)) := fun a ha => (List.Perm.append_left L2 pm).mem_iff.mpr ha
      exact ok (v :: vs) H2 (l1 ++ l2) L2 (k1.trans w1.right k2) (Nw.both (Nw.both w1.left a1.left) a1.right) (s2.perm (List.Perm.refl _) pm)
        ⟨(m, d), ds, v, vs, l1, l2, rfl, rfl, rfl, (r1.step k2 (fun a ha => List.mem_append_left _ ha) z2 z1).sub hN, r2.sub hN⟩
def aLend (j : Nat) (g : DL.Env → ARes) : DL.Env → ARes := fun δ => match δ[j]? with
  | some (some _) => g δ
  | _ => .bad
theorem dc_lend (h : PE X e (tVar j)) (hr : DC X W es ks g) (hs : starEach (e :: es) X.env = (false, eval e X.env) :: starEach es X.env) : DC X W (e :: es) (some j :: ks) (aLend j g) := by
  obtain ⟨tr, pr, qr⟩ := hr.ex
  refine ⟨tCons (tVar j) tr, pa_cons h pr hs, fun σ H δ L R Q s ok => ?_⟩
  unfold aLend at ok
  split at ok
  · rename_i p hp
    obtain ⟨v, l, L2, h1, h2, h3, h4⟩ := s.get (m := p.1) (d := p.2) hp
    refine ⟨v, h1, qr σ H δ L R _ s ?_⟩
    cases e2 : g δ with
    | bad => rw [e2] at ok; exact ok
    | exc x δ' => rw [e2] at ok; exact ok
    | ok ds δ2 =>
      rw [e2] at ok
      exact fun vs H2 l2 L2 k2 w2 s2 r2 => ok (v :: vs) H2 l2 L2 k2 w2 s2 ⟨v, vs, rfl, h1, r2⟩
  · exact ok.elim
end
def bindD : List Nat → List (Option Nat) → List (Nat × D) → DL.Env → Option (List D)
  | [], [], [], _ => some []
  | 0 :: ms, none :: ks, p :: ps, δ => (bindD ms ks ps δ).map (p.2 :: ·)
  | (m + 1) :: ms, none :: ks, p :: ps, δ => if p.1 = m + 1 then (bindD ms ks ps δ).map (p.2 :: ·) else none
  | (m + 1) :: ms, some j :: ks, ps, δ => match δ[j]? with
    | some (some (k, d)) => if k = m + 1 then (bindD ms ks ps (δ.set j none)).map (d :: ·) else none
    | _ => none
  | _, _, _, _ => none
def noneD : List (Option Nat) → DL.Env → DL.Env
  | [], δ => δ
  | none :: ks, δ => noneD ks δ
  | some j :: ks, δ => noneD ks (δ.set j none)
def backD : List Nat → List (Option Nat) → List D → DL.Env → Option DL.Env
  | [], [], [], δ => some δ
  | 0 :: ms, none :: ks, outs, δ => backD ms ks outs δ
  | (_ + 1) :: ms, none :: ks, _ :: outs, δ => backD ms ks outs δ
  | (m + 1) :: ms, some j :: ks, d :: outs, δ => backD ms ks outs (δ.set j (some (m + 1, d)))
  | _, _, _, _ => none
def callD (pm : List Nat) (ks : List (Option Nat)) (φ : FV) (ps : List (Nat × D)) (δ : DL.Env) : Res := match bindD pm ks ps δ with
  | some ds => (match φ ds with
    | .ok m d outs => (match backD pm ks outs (noneD ks δ) with
      | some δ2 => .ok m d δ2
      | none => .bad)
    | .exc x outs => (match backD pm ks outs (noneD ks δ) with
      | some δ2 => .exc x δ2
      | none => .bad)
    | .bad => .bad)
  | none => .bad
def eCall (pm : List Nat) (ks : List (Option Nat)) (φ : FV) (fs : DL.Env → ARes) : EV := fun δ => match fs δ with
  | .ok ps δ1 => callD pm ks φ ps δ1
  | .exc x δ' => .exc x δ'
  | .bad => .bad
section
variable {K : PySem.W.Frag} {H : Hp} {σ : L2.St}
theorem noneD_len : ∀ (ks : List (Option Nat)) (δ : DL.Env), (noneD ks δ).length = δ.length
  | [], δ => rfl
  | none :: ks, δ => noneD_len ks δ
  | some j :: ks, δ => by unfold noneD; rw [noneD_len ks]; simp
theorem bind_fz : ∀ {pm : List Nat} {ks : List (Option Nat)} {ps : List (Nat × D)} {δ : DL.Env} {ds : List D}, bindD pm ks ps δ = some ds → bindD pm ks (fzP pm ks ps) δ = some ds
  | [], [], [], δ, ds, e => e
  | [], [], _ :: _, δ, ds, e => by simp [bindD] at e
  | [], _ :: _, _, δ, ds, e => by simp [bindD] at e
  | _ :: _, [], _, δ, ds, e => by simp [bindD] at e
  | 0 :: ms, some j :: ks, _, δ, ds, e => by simp [bindD] at e
  | 0 :: ms, none :: ks, [], δ, ds, e => by simp [bindD] at e
  | (m + 1) :: ms, none :: ks, [], δ, ds, e => by simp [bindD] at e
  | 0 :: ms, none :: ks, p :: ps, δ, ds, e => by
    simp only [bindD, fzP, Option.map_eq_some_iff] at e ⊢
    obtain ⟨ds', e1, rfl⟩ := e
    exact ⟨ds', bind_fz e1, rfl⟩
  | (m + 1) :: ms, none :: ks, p :: ps, δ, ds, e => by
    simp only [bindD, fzP] at e ⊢
    split at e
    · rename_i h
      simp only [Option.map_eq_some_iff] at e
      obtain ⟨ds', e1, rfl⟩ := e
      rw [if_pos h, bind_fz e1]; rfl
    · cases e
  | (m + 1) :: ms, some j :: ks, ps, δ, ds, e => by
    simp only [bindD, fzP] at e ⊢
    split at e
    · split at e
      · rename_i h1 h
        simp only [Option.map_eq_some_iff] at e
        obtain ⟨ds', e1, rfl⟩ := e
        simp only [h1, h, if_true, bind_fz e1]; rfl
      · cases e
    · cases e
theorem take_lents : ∀ {pm : List Nat} {ks : List (Option Nat)} {ps : List (Nat × D)} {δ : DL.Env} {ds : List D} {vs : List V} {l L R N : As}, bindD pm ks ps δ = some ds → RpC K H N σ ks (fzP pm ks ps) vs l → SR K σ H δ L (l ++ R) → (∀ a, a ∈ N ↔ a ∈ L ++ (l ++ R)) →
    ∃ l0 L2, SR K σ H (noneD ks δ) L2 (l0 ++ R) ∧ RpM K H N pm ds vs l0 ∧ (l ++ L).Perm (l0 ++ L2)
  | [], [], [], δ, ds, vs, l, L, R, N, e, h, s, hN => by
    obtain ⟨_, rfl, rfl⟩ := h
    have : ([] : List D) = ds := by simpa [bindD] using e
    subst this
    exact ⟨[], L, s, ⟨rfl, rfl, rfl⟩, List.Perm.refl _⟩
  | [], [], _ :: _, δ, ds, vs, l, L, R, N, e, h, s, hN => by simp [bindD] at e
  | [], _ :: _, _, δ, ds, vs, l, L, R, N, e, h, s, hN => by simp [bindD] at e
  | _ :: _, [], _, δ, ds, vs, l, L, R, N, e, h, s, hN => by simp [bindD] at e
  | 0 :: ms, some j :: ks, _, δ, ds, vs, l, L, R, N, e, h, s, hN => by simp [bindD] at e
  | (m + 1) :: ms, none :: ks, [], δ, ds, vs, l, L, R, N, e, h, s, hN => by simp [bindD] at e
  | 0 :: ms, none :: ks, [], δ, ds, vs, l, L, R, N, e, h, s, hN => by simp [bindD] at e
  | 0 :: ms, none :: ks, p0 :: ps, δ, ds, vs, l, L, R, N, e, h, s, hN => by
    simp only [bindD, Option.map_eq_some_iff] at e
    obtain ⟨ds', e1, rfl⟩ := e
    obtain ⟨p, pr, v, vr, l1, l2, ep, rfl, rfl, r1, r2⟩ := h
    have ep : (0, p0.2) :: fzP ms ks ps = p :: pr := ep
    obtain ⟨rfl, rfl⟩ := List.cons.inj ep
    have z1 := r1.zero
    subst z1
    simp only [List.nil_append] at s hN
    obtain ⟨l0, L2, q1, q2, q3⟩ := take_lents e1 r2 s hN
    exact ⟨l0, L2, q1, ⟨p0.2, ds', v, vr, [], l0, rfl, rfl, rfl, r1, q2⟩, by simpa using q3⟩
  | (m + 1) :: ms, none :: ks, p0 :: ps, δ, ds, vs, l, L, R, N, e, h, s, hN => by
    simp only [bindD] at e
    split at e
    · rename_i hm
      simp only [Option.map_eq_some_iff] at e
      obtain ⟨ds', e1, rfl⟩ := e
      obtain ⟨p, pr, v, vr, l1, l2, ep, rfl, rfl, r1, r2⟩ := h
      have ep : p0 :: fzP ms ks ps = p :: pr := ep
      obtain ⟨rfl, rfl⟩ := List.cons.inj ep
      have pm1 : ((l1 ++ l2) ++ R).Perm (l2 ++ (l1 ++ R)) := by
        rw [← List.append_assoc]; exact List.Perm.append_right R List.perm_append_comm
      obtain ⟨l0, L2, q1, q2, q3⟩ := take_lents (l := l2) (R := l1 ++ R) (N := N) e1 r2 (s.perm (List.Perm.refl _) pm1) (fun a => (hN a).trans (List.Perm.append_left L pm1).mem_iff)
      refine ⟨l1 ++ l0, L2, q1.perm (List.Perm.refl _) ?_, ⟨p0.2, ds', v, vr, l1, l0, rfl, rfl, rfl, by rw [← hm]; exact r1, q2⟩, ?_⟩
      · rw [← List.append_assoc]
        exact List.Perm.append_right R List.perm_append_comm
      · rw [List.append_assoc, List.append_assoc]
        exact List.Perm.append_left l1 q3
    · cases e
  | (m + 1) :: ms, some j :: ks, ps, δ, ds, vs, l, L, R, N, e, h, s, hN => by
    simp only [bindD] at e
    split at e
    · rename_i k d hd
      split at e
      · rename_i hk
        subst hk
        simp only [Option.map_eq_some_iff] at e
        obtain ⟨ds', e1, rfl⟩ := e
        obtain ⟨v, vr, rfl, hv, r2⟩ := h
        obtain ⟨v', l1, L2, g1, g2, g3, g4⟩ := s.get hd
        rw [hv] at g1; cases g1
        have pm1 : (l1 ++ (l ++ R)).Perm (l ++ (l1 ++ R)) := by
          rw [← List.append_assoc, ← List.append_assoc]; exact List.Perm.append_right R List.perm_append_comm
        have hN2 : ∀ a, a ∈ N ↔ a ∈ L2 ++ (l ++ (l1 ++ R)) := fun a => by
          rw [hN a]
          have := g2.mem_iff (a := a)
          simp only [List.mem_append] at this ⊢
          rw [this]
          constructor
          · rintro ((h | h) | h | h) <;> simp [h]
          · rintro (h | h | h | h) <;> simp [h]
        obtain ⟨l0, L3, q1, q2, q3⟩ := take_lents (l := l) (R := l1 ++ R) e1 r2 (g4.perm (List.Perm.refl _) pm1) hN2
        refine ⟨l1 ++ l0, L3, q1.perm (List.Perm.refl _) ?_, ⟨d, ds', v, vr, l1, l0, rfl, rfl, rfl, g3.sub fun a ha => (hN a).mp ha, q2⟩, ?_⟩
        · rw [← List.append_assoc]
          exact List.Perm.append_right R List.perm_append_comm
        · refine (List.Perm.append_left l g2).trans ?_
          rw [List.append_assoc]
          refine List.Perm.trans ?_ (List.Perm.append_left l1 q3)
          rw [← List.append_assoc, ← List.append_assoc]
          exact List.Perm.append_right L2 List.perm_append_comm
      · cases e
    · cases e
def lendsIn : List (Option Nat) → List Nat
  | [] => []
  | none :: ks => lendsIn ks
  | some j :: ks => j :: lendsIn ks
theorem put_lents : ∀ {pm : List Nat} {ks : List (Option Nat)} {outs : List D} {δ δ' : DL.Env} {vs : List V} {l L R N : As} {ps : List (Nat × D)} {N0 : As} {l00 : As} {H0 : Hp}, backD pm ks outs δ = some δ' → RpC K H0 N0 σ ks ps vs l00 → RpO K H N pm outs vs l → SR K σ H δ L (l ++ R) → (∀ a ∈ L ++ (l ++ R), a ∈ N) →
    (∀ j ∈ lendsIn ks, δ[j]? = some none) → (lendsIn ks).Nodup → ∃ L', (∀ a ∈ L', a ∈ l ++ L) ∧ SR K σ H δ' L' R
  | [], [], [], δ, δ', vs, l, L, R, N, ps, N0, l00, H0, e, hc, h, s, hN, hj, nd => by
    obtain ⟨_, _, rfl⟩ := h
    have : δ = δ' := by simpa [backD] using e
    subst this
    exact ⟨L, fun a h => by simpa using h, s⟩
  | [], [], _ :: _, δ, δ', vs, l, L, R, N, ps, N0, l00, H0, e, hc, h, s, hN, hj, nd => by simp [backD] at e
  | [], _ :: _, _, δ, δ', vs, l, L, R, N, ps, N0, l00, H0, e, hc, h, s, hN, hj, nd => by simp [backD] at e
  | _ :: _, [], _, δ, δ', vs, l, L, R, N, ps, N0, l00, H0, e, hc, h, s, hN, hj, nd => by simp [backD] at e
  | 0 :: ms, some j :: ks, _, δ, δ', vs, l, L, R, N, ps, N0, l00, H0, e, hc, h, s, hN, hj, nd => by simp [backD] at e
  | (m + 1) :: ms, none :: ks, [], δ, δ', vs, l, L, R, N, ps, N0, l00, H0, e, hc, h, s, hN, hj, nd => by simp [backD] at e
  | (m + 1) :: ms, some j :: ks, [], δ, δ', vs, l, L, R, N, ps, N0, l00, H0, e, hc, h, s, hN, hj, nd => by simp [backD] at e
  | 0 :: ms, none :: ks, outs, δ, δ', vs, l, L, R, N, ps, N0, l00, H0, e, hc, h, s, hN, hj, nd => by
    obtain ⟨v, vr, rfl, h⟩ := h
    obtain ⟨p, pr, v', vr', l1, l2, _, ev, _, _, hc⟩ := hc
    obtain ⟨rfl, rfl⟩ := List.cons.inj ev
    exact put_lents (by simpa [backD] using e) hc h s hN hj nd
  | (m + 1) :: ms, none :: ks, d :: outs, δ, δ', vs, l, L, R, N, ps, N0, l00, H0, e, hc, h, s, hN, hj, nd => by
    obtain ⟨d', dr, v, vr, l1, l2, ed, rfl, rfl, r1, r2⟩ := h
    obtain ⟨rfl, rfl⟩ := List.cons.inj ed
    obtain ⟨p, pr, v', vr', k1, k2, _, ev, _, _, hc⟩ := hc
    obtain ⟨rfl, rfl⟩ := List.cons.inj ev
    have s1 : SR K σ H δ L (l2 ++ R) := s.less (by rw [List.append_assoc]; exact List.sublist_append_right _ _)
    obtain ⟨L', p1, s2⟩ := put_lents (l := l2) (N := N) (by simpa [backD] using e) hc r2 s1 (fun a ha => hN a (by
      rcases List.mem_append.mp ha with ha | ha
      · simp [ha]
      · rcases List.mem_append.mp ha with ha | ha <;> simp [ha])) hj nd
    exact ⟨L', fun a ha => by rcases List.mem_append.mp (p1 a ha) with h | h <;> simp [h], s2⟩
  | (m + 1) :: ms, some j :: ks, d :: outs, δ, δ', vs, l, L, R, N, ps, N0, l00, H0, e, hc, h, s, hN, hj, nd => by
    obtain ⟨d', dr, v, vr, l1, l2, ed, rfl, rfl, r1, r2⟩ := h
    obtain ⟨rfl, rfl⟩ := List.cons.inj ed
    obtain ⟨v', vr', ev, hv, hc⟩ := hc
    obtain ⟨rfl, rfl⟩ := List.cons.inj ev
    have nd' : j ∉ lendsIn ks ∧ (lendsIn ks).Nodup := List.nodup_cons.mp nd
    rw [List.append_assoc] at s
    have s1 := s.put (i := j) (hj j (by simp [lendsIn])) (r1.sub fun a ha => hN a (by rw [List.append_assoc]; exact ha))
    rw [set_same hv] at s1
    obtain ⟨L', p1, s2⟩ := put_lents (L := l1 ++ L) (l := l2) (R := R) (N := N) (by simpa [backD] using e) hc r2 s1 (fun a ha => hN a (by
      simp only [List.mem_append] at ha ⊢
      rcases ha with (h | h) | h | h <;> simp [h])) (fun i hi => by
        rw [List.getElem?_set_ne (by intro z; subst z; exact nd'.1 hi)]
        exact hj i (by simp [lendsIn, hi])) nd'.2
    exact ⟨L', fun a ha => by
      have := p1 a ha
      simp only [List.mem_append] at this ⊢
      rcases this with h | h | h <;> simp [h], s2⟩
theorem bind_nodup : ∀ {pm : List Nat} {ks : List (Option Nat)} {ps : List (Nat × D)} {δ : DL.Env} {ds : List D}, bindD pm ks ps δ = some ds → (lendsIn ks).Nodup ∧ ∀ j ∈ lendsIn ks, ∃ p, δ[j]? = some (some p)
  | [], [], _, δ, ds, e => ⟨List.nodup_nil, fun _ h => by simp [lendsIn] at h⟩
  | [], _ :: _, _, δ, ds, e => by simp [bindD] at e
  | _ :: _, [], _, δ, ds, e => by simp [bindD] at e
  | 0 :: ms, some j :: ks, _, δ, ds, e => by simp [bindD] at e
  | (m + 1) :: ms, none :: ks, [], δ, ds, e => by simp [bindD] at e
  | 0 :: ms, none :: ks, [], δ, ds, e => by simp [bindD] at e
  | 0 :: ms, none :: ks, p :: ps, δ, ds, e => by
    simp only [bindD, Option.map_eq_some_iff] at e
    obtain ⟨ds', e1, rfl⟩ := e
    show (lendsIn ks).Nodup ∧ ∀ j ∈ lendsIn ks, ∃ p, δ[j]? = some (some p)
    exact bind_nodup (pm := ms) (ks := ks) e1
  | (m + 1) :: ms, none :: ks, p :: ps, δ, ds, e => by
    simp only [bindD] at e
    split at e
    · simp only [Option.map_eq_some_iff] at e
      obtain ⟨ds', e1, rfl⟩ := e
      show (lendsIn ks).Nodup ∧ ∀ j ∈ lendsIn ks, ∃ p, δ[j]? = some (some p)
      exact bind_nodup (pm := ms) (ks := ks) e1
    · cases e
  | (m + 1) :: ms, some j :: ks, ps, δ, ds, e => by
    simp only [bindD] at e
    split at e
    · rename_i k d hd
      split at e
      · simp only [Option.map_eq_some_iff] at e
        obtain ⟨ds', e1, rfl⟩ := e
        obtain ⟨h1, h2⟩ := bind_nodup e1
        refine ⟨List.nodup_cons.mpr ⟨fun z => ?_, h1⟩, fun i hi => ?_⟩
        · obtain ⟨p, hp⟩ := h2 j z
          exact set_none_get δ j p hp
        · rcases List.mem_cons.mp hi with rfl | hi
          · exact ⟨_, hd⟩
          · obtain ⟨p, hp⟩ := h2 i hi
            by_cases z : j = i
            · subst z; exact ⟨_, hd⟩
            · rw [List.getElem?_set_ne z] at hp; exact ⟨p, hp⟩
      · cases e
    · cases e
theorem noneD_get : ∀ {ks : List (Option Nat)} {δ : DL.Env} {j : Nat}, (δ[j]? = some none ∨ (j ∈ lendsIn ks ∧ j < δ.length)) → (noneD ks δ)[j]? = some none
  | [], δ, j, h => by
    rcases h with h | ⟨h, _⟩
    · exact h
    · simp [lendsIn] at h
  | none :: ks, δ, j, h => noneD_get (ks := ks) h
  | some i :: ks, δ, j, h => by
    refine noneD_get (ks := ks) (δ := δ.set i none) ?_
    rcases h with h | ⟨h, hl⟩
    · refine .inl ?_
      rw [List.getElem?_set]
      split
      · rename_i z; subst z
        have := (List.getElem?_eq_some_iff.mp h).1
        simp [this]
      · exact h
    · rcases List.mem_cons.mp h with rfl | h
      · exact .inl (by simp [hl])
      · exact .inr ⟨h, by simpa using hl⟩
end
theorem ro_own {K : PySem.W.Frag} {H : Hp} {N : As} : ∀ {pm : List Nat} {outs : List D} {vs : List V} {l : As}, RpO K H N pm outs vs l → ∀ a ∈ l, IsOwn H a
  | [], _, _, _, h, a, ha => by rw [h.2.2] at ha; cases ha
  | 0 :: ms, _, _, _, h, a, ha => by obtain ⟨v, vr, _, h⟩ := h; exact ro_own h a ha
  | (m + 1) :: ms, _, _, _, h, a, ha => by
    obtain ⟨d, dr, v, vr, l1, l2, _, _, rfl, r1, r2⟩ := h
    exact (List.mem_append.mp ha).elim (r1.own a) (ro_own r2 a)
section
variable {X : Cx} {W : WX} {e' : Expr} {es : List Expr} {ks : List (Option Nat)} {fs : DL.Env → ARes} {pm : List Nat} {φ : FV}
theorem de_call (mk : ∀ t, PA X es t → PE X e' (tCallS (spD X.K X.mg pm φ) (WE W) t)) (h : DC X W es ks fs) : DE X W e' (eCall pm ks φ fs) := by
  obtain ⟨t, p, q⟩ := h.ex
  refine ⟨_, mk t p, fun σ H δ L R Q s ok => q σ H δ L R _ s ?_⟩
  unfold eCall at ok
  cases hf : fs δ with
  | bad => rw [hf] at ok; exact ok
  | exc x δ' => rw [hf] at ok; exact ok
  | ok ps δ1 =>
    rw [hf] at ok
    simp only [callD] at ok
    intro vs H1 l L1 k w s1 rc
    cases hb : bindD pm ks ps δ1 with
    | none => rw [hb] at ok; exact ok.elim
    | some ds =>
      rw [hb] at ok
      simp only at ok
      obtain ⟨lk, ld, pk, rk⟩ := RpC.fzp (pm := pm) rc
      have pl : (L1 ++ (l ++ R)).Perm (ld ++ (L1 ++ (lk ++ R))) := by
        have h1 : (L1 ++ (l ++ R)).Perm (L1 ++ ((ld ++ lk) ++ R)) := List.Perm.append_left L1 (List.Perm.append_right R (pk.symm.trans List.perm_append_comm))
        refine h1.trans ?_
        rw [List.append_assoc ld lk R, ← List.append_assoc L1 ld, ← List.append_assoc ld L1]
        exact List.Perm.append_right _ List.perm_append_comm
      have nd1 := pl.nodup_iff.mp s1.nd
      have rf := rk (L1 ++ (lk ++ R)) (fun a ha => pl.mem_iff.mpr (List.mem_append_right _ ha)) (fun a h1 h2 => (List.nodup_append.mp nd1).2.2 a h1 a h2 rfl)
      have sp : (l ++ R).Perm (ld ++ (lk ++ R)) := by
        refine (List.Perm.append_right R (pk.symm.trans List.perm_append_comm)).trans ?_
        rw [List.append_assoc]
      have s2 : SR X.K σ H1 δ1 L1 (lk ++ R) := (s1.perm (List.Perm.refl _) sp).less (List.sublist_append_right _ _)
      obtain ⟨l0, L2, q1, q2, q3⟩ := take_lents hb rf s2 (fun a => Iff.rfl)
      obtain ⟨nd, hsl⟩ := bind_nodup hb
      have pAll : (l0 ++ (L2 ++ R)).Perm (L1 ++ (lk ++ R)) := by
        rw [← List.append_assoc]
        refine (List.Perm.append_right R q3.symm).trans ?_
        rw [← List.append_assoc]
        exact List.Perm.append_right R List.perm_append_comm
      have hnone : ∀ j ∈ lendsIn ks, (noneD ks δ1)[j]? = some none := fun j hj => by
        obtain ⟨p, hp⟩ := hsl j hj
        exact noneD_get (.inr ⟨hj, (List.getElem?_eq_some_iff.mp hp).1⟩)
      have ownR : ∀ a ∈ L2 ++ R, IsOwn H1 a := fun a ha => (List.mem_append.mp ha).elim (q1.own a) fun z => q1.tr a (List.mem_append_right _ z)
      refine ⟨ds, l0, L2 ++ R, ?_, pAll.nodup_iff.mpr s2.nd, ownR, ?_⟩
      · have subm : ∀ {pm : List Nat} {ds : List D} {vs : List V} {l N N' : As}, (∀ a ∈ N', a ∈ N) → RpM X.K H1 N pm ds vs l → RpM X.K H1 N' pm ds vs l := by
          intro pm
          induction pm with
          | nil => intro ds vs l N N' _ h; exact h
          | cons m ms ih =>
            intro ds vs l N N' hN h
            obtain ⟨d, dr, v, vr, l1, l2, e1, e2, e3, r1, r2⟩ := h
            exact ⟨d, dr, v, vr, l1, l2, e1, e2, e3, r1.sub hN, ih hN r2⟩
        exact subm (fun a ha => pAll.mem_iff.mp ha) q2
      -- behind the call
      · have wl : ∀ a ∈ lk ++ L1, a ∈ l ++ L1 := fun a ha => by
          rcases List.mem_append.mp ha with ha | ha
          · exact List.mem_append_left _ (pk.mem_iff.mp (List.mem_append_left _ ha))
          · exact List.mem_append_right _ ha
        have wl0 : ∀ a ∈ l0, a ∈ l ++ L1 := fun a ha => wl a (q3.mem_iff.mpr (List.mem_append_left _ ha))
        have wL2 : ∀ a ∈ L2, a ∈ l ++ L1 := fun a ha => wl a (q3.mem_iff.mpr (List.mem_append_right _ ha))
        have kk : ∀ {H2 : Hp}, Kp H1 H2 l0 → Kp H H2 L := fun {H2} c => by
          have c2 : Kp H1 H2 (l ++ L1) := ⟨fun a o e n => c.kp a o e fun z => n (wl0 a z), fun a ha => (List.mem_append.mp ha).elim (fun q => s1.tr a (List.mem_append_left _ q)) (s1.own a)⟩
          exact k.trans w c2
        have ww : ∀ {l3 : As}, Nw H1 l0 l3 → Nw H L l3 := fun {l3} z => by
          refine Nw.trans k w fun a ha => ?_
          exact (z a ha).imp_left (wl0 a)
        have back : ∀ {H2 : Hp} {outs : List D} {δ2 : DL.Env} {l2 L' : As}, Kp H1 H2 l0 → Nw H1 l0 (l2 ++ L') → (L' ++ (l2 ++ (L2 ++ R))).Nodup → (∀ a ∈ l2 ++ (L2 ++ R), IsOwn H2 a) → RpO X.K H2 (L' ++ (l2 ++ (L2 ++ R))) pm outs vs L' →
            backD pm ks outs (noneD ks δ1) = some δ2 → ∃ L3, (∀ a ∈ L3, a ∈ L' ++ L2) ∧ SR X.K σ H2 δ2 L3 (l2 ++ R) := by
          intro H2 outs δ2 l2 L' c z nd2 own2 ro hbk
          have io : ∀ a ∈ L', IsOwn H2 a := ro_own ro
          have pm2 : (L2 ++ (L' ++ (l2 ++ R))).Perm (L' ++ (l2 ++ (L2 ++ R))) := by
            refine List.perm_append_comm.trans ?_
            rw [List.append_assoc, List.append_assoc]
            refine List.Perm.append_left L' (List.Perm.append_left l2 ?_)
            exact List.perm_append_comm
          have s3 : SR X.K σ H2 (noneD ks δ1) L2 (L' ++ (l2 ++ R)) := by
            refine q1.step c (fun a ha => List.mem_append_left _ ha) (pm2.nodup_iff.mpr nd2) (fun a ha => ?_) fun a ha => ?_
            · rcases List.mem_append.mp ha with ha | ha
              · exact (z a (List.mem_append_right _ ha)).imp_left fun q => List.mem_append_left _ q
              · rcases List.mem_append.mp ha with ha | ha
                · exact (z a (List.mem_append_left _ ha)).imp_left fun q => List.mem_append_left _ q
                · exact .inl (List.mem_append_right _ ha)
            · rcases List.mem_append.mp ha with ha | ha
              · exact io a ha
              · rcases List.mem_append.mp ha with ha | ha
                · exact own2 a (List.mem_append_left _ ha)
                · exact own2 a (List.mem_append_right _ (List.mem_append_right _ ha))
          exact put_lents hbk rf ro s3 (fun a ha => pm2.mem_iff.mp ha) hnone nd
        cases hφ : φ ds with
        | bad => rw [hφ] at ok; exact ok
        | ok m d outs =>
          rw [hφ] at ok
          simp only at ok
          cases hbk : backD pm ks outs (noneD ks δ1) with
          | none => rw [hbk] at ok; exact ok.elim
          | some δ2 =>
            rw [hbk] at ok
            intro v H2 l2 L' c z nd2 own2 rp ro
            obtain ⟨L3, p3, s3⟩ := back c z nd2 own2 ro hbk
            refine ok v H2 l2 L3 (kk c) (Nw.both (ww z.left) fun a ha => ?_) s3 (rp.sub fun a ha => ?_)
            · rcases List.mem_append.mp (p3 a ha) with ha | ha
              · exact ww z.right a ha
              · exact w a (wL2 a ha)
            · rcases List.mem_append.mp ha with ha | ha
              · rcases List.mem_append.mp (p3 a ha) with ha | ha <;> simp [ha]
              · rcases List.mem_append.mp ha with ha | ha <;> simp [ha]
        | exc x outs =>
          rw [hφ] at ok
          simp only at ok
          cases hbk : backD pm ks outs (noneD ks δ1) with
          | none => rw [hbk] at ok; exact ok.elim
          | some δ2 =>
            rw [hbk] at ok
            intro cc dx H2 L' c z nd2 own2 rx ro
            obtain ⟨L3, p3, s3⟩ := back (l2 := []) c (by simpa using z) (by simpa using nd2) (by simpa using own2) (by simpa using ro) hbk
            refine ok cc dx H2 L3 (kk c) (fun a ha => ?_) (by simpa using s3) (rx.step Kp.refl (fun _ z => by cases z) fun a ha => .inl ?_)
            · rcases List.mem_append.mp (p3 a ha) with ha | ha
              · exact ww z a ha
              · exact w a (wL2 a ha)
            · rcases List.mem_append.mp ha with ha | ha
              · rcases List.mem_append.mp (p3 a ha) with ha | ha <;> simp [ha]
              · simp [ha]
end
end DL
namespace DL
open PySem PySem.Spec L2
open PyProof.Rows hiding St
def canE (X : Cx) (W : WX) (f : EV) : TE := fun σ H Q => ∃ δ L R, SR X.K σ H δ L R ∧ EOk X W σ H L R Q (f δ)
def canT (X : Cx) (W : WX) (f : DL.Env → TRes) : TT := fun σ H Q => ∃ δ L R, SR X.K σ H δ L R ∧ TOk X W σ H L R Q (f δ)
def canG (K : PySem.W.Frag) (F : List Nat) (t : Tgt) : TG := fun v σ H Q => ∃ δ L R l m d δ', SR K σ H δ L (l ++ R) ∧ Rp K H (L ++ (l ++ R)) m d v l ∧ t.set m d δ = some δ' ∧ ∀ σ' L', (∀ a ∈ L', a ∈ l ++ L) → SR K σ' H δ' L' R → Fix F σ σ' → Q σ' H
section
variable {X : Cx} {W : WX} {e : Expr} {f : EV}
theorem DE.can (h : DE X W e f) : PE X e (canE X W f) := by
  obtain ⟨t, p, q⟩ := h.ex
  exact ⟨fun pins s σ H Q I ⟨δ, L, R, s1, ok⟩ => p.run pins s σ H Q I (q σ H δ L R Q s1 ok)⟩
theorem DT.can {f : DL.Env → TRes} (h : DT X W e f) : PT X e (canT X W f) := by
  obtain ⟨t, p, q⟩ := h.ex
  exact ⟨fun pins s σ H Q I ⟨δ, L, R, s1, ok⟩ => p.run pins s σ H Q I (q σ H δ L R Q s1 ok)⟩
theorem DG.can {F : List Nat} {t : Tgt} (h : DG X F e t) : PG X e (canG X.K F t) := by
  obtain ⟨g, p, q⟩ := h.ex
  exact ⟨fun pins s σ H v u Q I r ⟨δ, L, R, l, m, d, δ', s1, rp, ht, hq⟩ => p.run pins s σ H v u Q I r (q v σ H δ L R l m d δ' Q s1 rp ht hq)⟩
end
def wipeD (δ : DL.Env) : List Nat → DL.Env
  | [] => δ
  | v :: vs => (wipeD δ vs).set v none
def outW (n : Nat) (vs : List Nat) : List Nat := (List.range n).filter fun i => !vs.contains i
def tYesD : DL.Env → TRes := fun δ => .ok true δ
def compL (t : Tgt) (vs : List Nat) (cond : DL.Env → TRes) (elt : EV) : List D → List D → DL.Env → Option (List D × DL.Env)
  | [], acc, δ => some (acc, δ)
  | d :: ds, acc, δ => match t.set 0 d δ with
    | some δ1 => (match cond δ1 with
      | .ok true δ2 => (match elt δ2 with
        | .ok _ y δ3 => if acc.length < sizeLine then compL t vs cond elt ds (acc ++ [y]) (wipeD δ3 vs) else none
        | _ => none)
      | .ok false δ2 => compL t vs cond elt ds acc (wipeD δ2 vs)
      | _ => none)
    | none => none
def eComp (t : Tgt) (vs : List Nat) (it : DL.Env → IRes) (cond : DL.Env → TRes) (elt : EV) : EV := fun δ => match it δ with
  | .ok ds δ1 => (match compL t vs cond elt ds [] (wipeD δ1 vs) with
    | some (acc, δ2) => .ok 1 (.lst acc) δ2
    | none => .bad)
  | .exc x δ' => .exc x δ'
  | .bad => .bad
section
variable {K : PySem.W.Frag} {H : Hp} {σ : L2.St} {L R : As}
theorem wipeD_len (δ : DL.Env) : ∀ vs : List Nat, (wipeD δ vs).length = δ.length
  | [] => rfl
  | v :: vs => by unfold wipeD; rw [List.length_set, wipeD_len δ vs]
theorem wipeD_none {δ : DL.Env} {i : Nat} : ∀ {vs : List Nat}, i ∈ vs → ∀ p, (wipeD δ vs)[i]? ≠ some (some p)
  | v :: vs, h, p => by
    unfold wipeD
    by_cases z : v = i
    · subst z; exact set_none_get _ _ p
    · rw [List.getElem?_set_ne z]
      exact wipeD_none ((List.mem_cons.mp h).resolve_left fun q => z q.symm) p
theorem SR.wiped {δ : DL.Env} (s : SR K σ H δ L R) : ∀ vs : List Nat, ∃ L', L'.Sublist L ∧ SR K (wipe σ vs) H (wipeD δ vs) L' R
  | [] => ⟨L, List.Sublist.refl _, s⟩
  | v :: vs => by
    obtain ⟨L1, p1, s1⟩ := SR.wiped s vs
    obtain ⟨L2, p2, s2⟩ := s1.drop v
    exact ⟨L2, p2.trans p1, s2.any v none (set_none_get _ _)⟩
theorem SR.unwiped {δ : DL.Env} : ∀ {vs : List Nat}, SR K (wipe σ vs) H δ L R → (∀ i ∈ vs, ∀ p, δ[i]? ≠ some (some p)) → SR K σ H δ L R
  | [], s, _ => s
  | v :: vs, s, h => by
    have h1 := h v List.mem_cons_self
    refine SR.unwiped (vs := vs) ?_ fun i hi => h i (List.mem_cons_of_mem _ hi)
    have e0 : wipe σ (v :: vs) = (wipe σ vs).set v none := rfl
    by_cases hv : v < (wipe σ vs).length
    · have := s.any v ((wipe σ vs)[v]) h1
      rw [e0, List.set_set, List.set_getElem_self] at this
      exact this
    · have e : (wipe σ vs).set v none = wipe σ vs := List.set_eq_of_length_le (by omega)
      rw [e0, e] at s; exact s
theorem wipe_get {i : Nat} : ∀ {vs : List Nat}, i ∈ vs → i < σ.length → (wipe σ vs)[i]? = some none
  | v :: vs, h, hi => by
    unfold L2.wipe
    by_cases z : v = i
    · subst z
      rw [List.getElem?_set_self]
      rw [wipe_length]; exact hi
    · rw [List.getElem?_set_ne z]
      exact wipe_get ((List.mem_cons.mp h).resolve_left fun q => z q.symm) hi
theorem wipe_fix {σ' : L2.St} {vs : List Nat} {n : Nat} (fx : Fix (outW n vs) (wipe σ vs) σ') (hl : σ'.length = σ.length) (hn : σ.length = n) : wipe σ' vs = wipe σ vs := by
  apply List.ext_getElem?
  intro i
  by_cases hi : i < n
  · by_cases hv : i ∈ vs
    · rw [wipe_get hv (by omega), wipe_get hv (by omega)]
    · rw [wipe_out hv]
      refine fx i ?_
      unfold outW
      rw [List.mem_filter]
      exact ⟨List.mem_range.mpr hi, by simpa using hv⟩
  · rw [List.getElem?_eq_none (by rw [wipe_length]; omega), List.getElem?_eq_none (by rw [wipe_length]; omega)]
theorem setMany_len : ∀ {ss : List Slot1} {m : Nat} {ds : List D} {δ δ' : DL.Env}, setMany ss m ds δ = some δ' → δ'.length = δ.length
  | [], m, [], δ, δ', h => by simp [setMany] at h; rw [h]
  | [], m, _ :: _, δ, δ', h => by simp [setMany] at h
  | _ :: _, m, [], δ, δ', h => by simp [setMany] at h
  | s :: ss, m, d :: ds, δ, δ', h => by
    simp only [setMany] at h
    split at h
    · rename_i δ1 h1
      rw [setMany_len h]
      unfold setOne at h1
      split at h1
      · cases h1; simp
      · cases h1
    · cases h
theorem Tgt.len {t : Tgt} {m : Nat} {d : D} {δ δ' : DL.Env} (h : t.set m d δ = some δ') : δ'.length = δ.length := by
  cases t with
  | nm s =>
    simp only [Tgt.set] at h
    unfold setOne at h
    split at h
    · cases h; simp
    · cases h
  | tp ss =>
    cases d with
    | tup ds => exact setMany_len (by simpa [Tgt.set] using h)
    | lst ds =>
      cases m with
      | zero => exact setMany_len (by simpa [Tgt.set] using h)
      | succ m => exact setMany_len (by simpa [Tgt.set] using h)
    | _ => simp [Tgt.set] at h
end
def KOk (X : Cx) (σ : L2.St) (H : Hp) (L R : As) (Da : Addr) (Q : VK) : Option (List D × DL.Env) → Prop
  | some (acc, δ') => ∀ H' L' vacc, Kp H H' (Da :: L) → Nw H (Da :: L) (Da :: L') → SR X.K σ H' δ' L' (Da :: R) → H' Da = some (.lst vacc) → Rps X.K H' (L' ++ (Da :: R)) 0 acc vacc [] → Q (.ref Da) H'
  | none => False
theorem KOk.same {X : Cx} {σ : L2.St} {H H1 : Hp} {L L1 R : As} {Da : Addr} {Q : VK} {r : Option (List D × DL.Env)} (k : Kp H H1 (Da :: L)) (w : Nw H (Da :: L) (Da :: L1)) (h : KOk X σ H L R Da Q r) : KOk X σ H1 L1 R Da Q r := by
  cases r with
  | none => exact h
  | some p => exact fun H' L' vacc k' w' s' => h H' L' vacc (k.trans w k') (Nw.trans k w w') s'
theorem compL_none : ∀ {t : Tgt} {vs : List Nat} {cond : DL.Env → TRes} {elt : EV} {ds acc acc' : List D} {δ δ' : DL.Env}, compL t vs cond elt ds acc δ = some (acc', δ') → (∀ i ∈ vs, ∀ p, δ[i]? ≠ some (some p)) → ∀ i ∈ vs, ∀ p, δ'[i]? ≠ some (some p)
  | t, vs, cond, elt, [], acc, acc', δ, δ', h, n => by
    simp only [compL, Option.some.injEq, Prod.mk.injEq] at h
    rw [← h.2]; exact n
  | t, vs, cond, elt, d :: ds, acc, acc', δ, δ', h, n => by
    simp only [compL] at h
    split at h
    · split at h
      · split at h
        · split at h
          · exact compL_none h fun i hi => wipeD_none hi
          · cases h
        · cases h
      · exact compL_none h fun i hi => wipeD_none hi
      · cases h
    · cases h
section
variable {X : Cx} {W : WX} {fi : DL.Env → IRes} {t : Tgt} {vs : List Nat} {cond : DL.Env → TRes} {elt : EV}
theorem sim_comp {wi : TI} {n : Nat} (hn : ∀ σ H δ L R, SR X.K σ H δ L R → True) (qi : ∀ σ H δ L R Q, SR X.K σ H δ L R → IOk X W σ H L R Q (fi δ) → wi σ H Q) (W0 : WX) (hW0 : ∀ c dx σ H, ¬ W0 c dx σ H)
    : ∀ σ H δ L R Q, δ.length = n → SR X.K σ H δ L R → EOk X W σ H L R Q (eComp t vs fi cond elt δ) → (∀ ds δ1, fi δ = .ok ds δ1 → δ1.length = n) →
      tLc wi (canG X.K (outW n vs) t) (canT X W0 cond) (canE X W0 elt) vs σ H Q := by
  intro σ H δ L R Q hlen s ok hln
  refine qi σ H δ L R _ s ?_
  unfold eComp at ok
  cases hf : fi δ with
  | bad => rw [hf] at ok; exact ok
  | exc x δ' => rw [hf] at ok; exact ok
  | ok items δ1 =>
    rw [hf] at ok
    simp only at ok
    have hl1 : δ1.length = n := hln items δ1 hf
    intro J H1 L1 P k w s1 J1 p1 Da hDa
    obtain ⟨L2, sb2, s2⟩ := s1.wiped vs
    have hσ : σ.length = n := by rw [s1.len]; exact hl1
    have ownD : IsOwn (upd H1 Da (.lst [])) Da := .inl ⟨_, upd_same⟩
    have io : ∀ {a}, IsOwn H1 a → IsOwn (upd H1 Da (.lst [])) a := fun {a} q => q.imp (fun ⟨x, e⟩ => ⟨x, upd_ext hDa _ _ e⟩) fun ⟨x, e⟩ => ⟨x, upd_ext hDa _ _ e⟩
    have dn : Da ∉ L2 ++ R := fun z => (((List.mem_append.mp z).elim (s2.own Da) (s2.tr Da)) : IsOwn H1 Da).ne hDa
    have nd2 : (L2 ++ (Da :: R)).Nodup := (List.perm_middle (l₁ := L2) (l₂ := R) (a := Da)).nodup_iff.mpr (List.nodup_cons.mpr ⟨dn, s2.nd⟩)
    have s3 : SR X.K (wipe σ vs) (upd H1 Da (.lst [])) (wipeD δ1 vs) L2 (Da :: R) := s2.step (kp_upd hDa) (fun _ z => by cases z) nd2 (fun a ha => by
        rcases List.mem_cons.mp ha with rfl | ha
        · exact .inr hDa
        · exact .inl ha) fun a ha => by
        rcases List.mem_cons.mp ha with rfl | ha
        · exact ownD
        · exact io (s2.tr a ha)
    have p3 : P (upd H1 Da (.lst [])) (L2 ++ (Da :: R)) := J1.step _ _ _ _ [] p1 (kp_upd hDa) (fun _ z => by cases z) fun a ha => by
      rcases List.mem_append.mp ha with ha | ha
      · exact .inl (List.mem_append_left _ (sb2.subset ha))
      · rcases List.mem_cons.mp ha with rfl | ha
        · exact .inr hDa
        · exact .inl (List.mem_append_right _ ha)
    -- what is wanted, from the start on
    have k0 : KOk X σ (upd H1 Da (.lst [])) L2 R Da Q (compL t vs cond elt items [] (wipeD δ1 vs)) := by
      cases hc : compL t vs cond elt items [] (wipeD δ1 vs) with
      | none => rw [hc] at ok; exact ok.elim
      | some q =>
        obtain ⟨acc, δ2⟩ := q
        rw [hc] at ok
        intro H' L' vacc k' w' s' hD' r'
        have w2 : Nw H1 L1 L2 := fun a ha => .inl (sb2.subset ha)
        refine ok (.ref Da) H' [Da] L' ⟨fun a o e na => k'.kp a o ?_ ?_, k.ow⟩ ?_ s' ?_
        · by_cases z : a ∈ L1
          · exact absurd (w a z) (by
              rintro (q | q)
              · exact na q
              · rw [e] at q; cases q)
          · exact upd_ext hDa _ _ (k.kp a o e na)
        · intro z
          rcases List.mem_cons.mp z with rfl | z
          · have : IsOwn H1 a ∨ H1 a = none := .inr hDa
            have e1 := k.kp a o e na
            rw [hDa] at e1; cases e1
          · rcases w a (sb2.subset z) with q | q
            · exact na q
            · rw [e] at q; cases q
        · have fresh : Nw H L [Da] := Nw.trans k w fun a ha => .inr (by rw [List.mem_singleton.mp ha]; exact hDa)
          refine Nw.both fresh fun a ha => ?_
          rcases w' a (List.mem_cons_of_mem _ ha) with q | q
          · rcases List.mem_cons.mp q with rfl | q
            · exact fresh a (by simp)
            · exact w a (sb2.subset q)
          · refine Nw.trans k w (fun b hb => .inr ?_) a (show a ∈ [a] by simp)
            rw [List.mem_singleton.mp hb]
            by_cases z : a = Da
            · rw [z]; exact hDa
            · rw [upd_ne z] at q; exact q
        · simp only [Rp]
          exact ⟨Da, vacc, [], rfl, hD', rfl, r'⟩
    refine ⟨fun i m H => m = items.length - i ∧ i ≤ items.length ∧ ∃ δ L acc vacc, δ.length = n ∧ (∀ i ∈ vs, ∀ p, δ[i]? ≠ some (some p)) ∧ SR X.K (wipe σ vs) H δ L (Da :: R) ∧ H Da = some (.lst vacc) ∧ Rps X.K H (L ++ (Da :: R)) 0 acc vacc [] ∧ P H (L ++ (Da :: R)) ∧
      KOk X σ H L R Da Q (compL t vs cond elt (items.drop i) acc δ), ⟨items.length, by simp, by simp, wipeD δ1 vs, L2, [], [], by rw [wipeD_len]; exact hl1, fun i hi => wipeD_none hi, s3, upd_same, by simp [Rps], p3, by simpa using k0⟩, ?_⟩
    rintro i m H2 ⟨rfl, hi, δ2, L3, acc, vacc, hl2, hw2, s4, hD4, r4, p4, k4⟩
    by_cases hlt : i < items.length
    · refine .inr ?_
      have hx : items[i]? = some items[i] := by simp [hlt]
      obtain ⟨hgo, hy⟩ := J1.go H2 _ i _ p4 hx
      rw [List.drop_eq_getElem_cons hlt] at k4
      refine ⟨hgo, fun H' => i + 1 ≤ items.length ∧ ∃ δ L acc vacc, δ.length = n ∧ (∀ i ∈ vs, ∀ p, δ[i]? ≠ some (some p)) ∧ SR X.K (wipe σ vs) H' δ L (Da :: R) ∧ H' Da = some (.lst vacc) ∧ Rps X.K H' (L ++ (Da :: R)) 0 acc vacc [] ∧ P H' (L ++ (Da :: R)) ∧
        KOk X σ H' L R Da Q (compL t vs cond elt (items.drop (i + 1)) acc δ), fun H' q => ⟨items.length - (i + 1), by omega, rfl, q⟩, fun x H3 y => ?_⟩
      obtain ⟨ext, rx⟩ := hy x H3 y
      have kk : Kp H2 H3 [] := ⟨fun a o e _ => ext a o e, fun a z => by cases z⟩
      have io3 : ∀ {a}, IsOwn H2 a → IsOwn H3 a := fun {a} q => q.imp (fun ⟨x, e⟩ => ⟨x, ext _ _ e⟩) fun ⟨x, e⟩ => ⟨x, ext _ _ e⟩
      have s5 : SR X.K (wipe σ vs) H3 δ2 L3 (Da :: R) := s4.step kk (fun a z => by cases z) s4.nd (fun a ha => .inl ha) fun a ha => io3 (s4.tr a ha)
      have p5 : P H3 (L3 ++ (Da :: R)) := J1.step _ _ _ _ [] p4 kk (fun a z => by cases z) fun a ha => .inl ha
      have r5 : Rps X.K H3 (L3 ++ (Da :: R)) 0 acc vacc [] := r4.step kk (fun a z => by cases z) (fun a ha => .inl ha) fun _ z => by cases z
      have hD5 := ext _ _ hD4
      have kD : Kp H2 H3 (Da :: L3) := ⟨fun a o e n => ext a o e, fun a ha => by
        rcases List.mem_cons.mp ha with rfl | ha
        · exact .inl ⟨_, hD4⟩
        · exact s4.own a ha⟩
      simp only [compL] at k4
      cases ht : t.set 0 items[i] δ2 with
      | none => rw [ht] at k4; exact k4.elim
      | some δ3 =>
        rw [ht] at k4
        simp only at k4
        refine ⟨δ2, L3, Da :: R, [], 0, _, δ3, s5, rx, ht, fun σ3 L4 a4 s6 fx => ?_⟩
        have w6 : Nw H3 L3 L4 := fun a ha => .inl (by simpa using a4 a ha)
        have hl3 : δ3.length = n := (Tgt.len ht).trans hl2
        have hσ3 : σ3.length = σ.length := by rw [s6.len, hl3, hσ]
        refine ⟨wipe_fix fx hσ3 hσ, ?_⟩
        refine ⟨δ3, L4, Da :: R, s6, ?_⟩
        -- to the next turn
        have next : ∀ {H5 : Hp} {L5 : As} {δ5 : DL.Env} {acc5 : List D} {vacc5 : List V}, Kp H2 H5 (Da :: L3) → Nw H2 (Da :: L3) (Da :: L5) → δ5.length = n → SR X.K σ3 H5 δ5 L5 (Da :: R) → H5 Da = some (.lst vacc5) → Rps X.K H5 (L5 ++ (Da :: R)) 0 acc5 vacc5 [] → P H5 (L5 ++ (Da :: R)) →
            KOk X σ H2 L3 R Da Q (compL t vs cond elt (items.drop (i + 1)) acc5 (wipeD δ5 vs)) → i + 1 ≤ items.length ∧ ∃ δ L acc vacc, δ.length = n ∧ (∀ i ∈ vs, ∀ p, δ[i]? ≠ some (some p)) ∧ SR X.K (wipe σ vs) H5 δ L (Da :: R) ∧ H5 Da = some (.lst vacc) ∧ Rps X.K H5 (L ++ (Da :: R)) 0 acc vacc [] ∧ P H5 (L ++ (Da :: R)) ∧
              KOk X σ H5 L R Da Q (compL t vs cond elt (items.drop (i + 1)) acc δ) := by
          intro H5 L5 δ5 acc5 vacc5 k5 w5 hl5 s7 hD7 r7 p7 ko
          obtain ⟨L6, sb6, s8⟩ := s7.wiped vs
          rw [wipe_fix fx hσ3 hσ] at s8
          have sN : ∀ a ∈ L6 ++ (Da :: R), a ∈ L5 ++ (Da :: R) := fun a ha => (List.mem_append.mp ha).elim (fun q => List.mem_append_left _ (sb6.subset q)) fun q => List.mem_append_right _ q
          refine ⟨hlt, wipeD δ5 vs, L6, acc5, vacc5, by rw [wipeD_len]; exact hl5, fun i hi => wipeD_none hi, s8, hD7, r7.sub sN, J1.step _ _ _ _ [] p7 Kp.refl (fun a z => by cases z) (fun a ha => .inl (sN a ha)), KOk.same k5 (fun a ha => ?_) ko⟩
          rcases List.mem_cons.mp ha with rfl | ha
          · exact .inl List.mem_cons_self
          · exact w5 a (List.mem_cons_of_mem _ (sb6.subset ha))
        have w36 : Nw H2 (Da :: L3) (Da :: L4) := fun a ha => by
          rcases List.mem_cons.mp ha with rfl | ha
          · exact .inl List.mem_cons_self
          · exact .inl (List.mem_cons_of_mem _ (by simpa using a4 a ha))
        have nDa : Da ∉ L4 := fun z => (List.nodup_append.mp s6.nd).2.2 Da z Da List.mem_cons_self rfl
        have sub34 : ∀ a ∈ L4 ++ (Da :: R), a ∈ L3 ++ (Da :: R) := fun a ha => (List.mem_append.mp ha).elim (fun q => List.mem_append_left _ (by simpa using a4 a q)) fun q => List.mem_append_right _ q
        have ownDa3 : IsOwn H3 Da := .inl ⟨_, hD5⟩
        cases hc : cond δ3 with
        | bad => rw [hc] at k4; exact k4.elim
        | exc x δ4 => rw [hc] at k4; exact k4.elim
        | ok b δ4 =>
          rw [hc] at k4
          intro H4 L5 k5 w5 s7
          have k34 : Kp H3 H4 (Da :: L4) := ⟨fun a o e n => k5.kp a o e fun z => n (List.mem_cons_of_mem _ z), fun a ha => by
            rcases List.mem_cons.mp ha with rfl | ha
            · exact ownDa3
            · exact s6.own a ha⟩
          have w45 : Nw H3 (Da :: L4) (Da :: L5) := fun a ha => by
            rcases List.mem_cons.mp ha with rfl | ha
            · exact .inl List.mem_cons_self
            · exact (w5 a ha).imp_left fun q => List.mem_cons_of_mem _ q
          have k24 := kD.trans w36 k34
          have w25 := Nw.trans kD w36 w45
          have nN : Nw H3 (L4 ++ (Da :: R)) (L5 ++ (Da :: R)) := fun a ha => by
            rcases List.mem_append.mp ha with ha | ha
            · exact (w5 a ha).imp_left fun q => List.mem_append_left _ q
            · exact .inl (List.mem_append_right _ ha)
          have hD6 : H4 Da = some (.lst vacc) := k5.kp _ _ hD5 nDa
          have r6 : Rps X.K H4 (L5 ++ (Da :: R)) 0 acc vacc [] := (r5.sub sub34).step k5 (fun a ha => List.mem_append_left _ ha) nN fun _ z => by cases z
          have p6 : P H4 (L5 ++ (Da :: R)) := J1.step _ _ _ _ L4 (J1.step _ _ _ _ [] p5 Kp.refl (fun a z => by cases z) fun a ha => .inl (sub34 a ha)) k5 (fun a ha => List.mem_append_left _ ha) nN
          have hl4 : δ4.length = n := by rw [← s7.len, hσ3, hσ]
          cases b with
          | false => exact iteF (next k24 w25 hl4 s7 hD6 r6 p6 k4)
          | true =>
            simp only at k4
            refine iteT ⟨δ4, L5, Da :: R, s7, ?_⟩
            cases he : elt δ4 with
            | bad => rw [he] at k4; exact k4.elim
            | exc x δ5 => rw [he] at k4; exact k4.elim
            | ok my y δ5 =>
              rw [he] at k4
              simp only at k4
              split at k4
              · rename_i hsz
                intro u H5 l6 L6 k6 w6 s8 rp
                obtain ⟨y1, y2⟩ := fz_at s8
                have ru := rp.fz y1 y2
                have s9 : SR X.K σ3 H5 δ5 L6 (Da :: R) := s8.less (List.sublist_append_right _ _)
                have nDa5 : Da ∉ L5 := fun z => (List.nodup_append.mp s7.nd).2.2 Da z Da List.mem_cons_self rfl
                have nDa6 : Da ∉ L6 := fun z => (List.nodup_append.mp s9.nd).2.2 Da z Da List.mem_cons_self rfl
                have hD7 : H5 Da = some (.lst vacc) := k6.kp _ _ hD6 nDa5
                have nN6 : Nw H4 (L5 ++ (Da :: R)) (L6 ++ (Da :: R)) := fun a ha => by
                  rcases List.mem_append.mp ha with ha | ha
                  · exact (w6.right a ha).imp_left fun q => List.mem_append_left _ q
                  · exact .inl (List.mem_append_right _ ha)
                have r7 : Rps X.K H5 (L6 ++ (Da :: R)) 0 acc vacc [] := r6.step k6 (fun a ha => List.mem_append_left _ ha) nN6 fun _ z => by cases z
                have p7 : P H5 (L6 ++ (Da :: R)) := J1.step _ _ _ _ L5 p6 k6 (fun a ha => List.mem_append_left _ ha) nN6
                have kU : Kp H5 (upd H5 Da (.lst (vacc ++ [u]))) [Da] := ⟨fun b o q n => by rw [upd_ne (by simpa using n)]; exact q, fun b hb => (List.mem_singleton.mp hb) ▸ (.inl ⟨_, hD7⟩)⟩
                have dN : ∀ b ∈ [Da], b ∈ L6 ++ (Da :: R) := fun b hb => by rw [List.mem_singleton.mp hb]; simp
                have ioU : ∀ {a}, IsOwn H5 a → IsOwn (upd H5 Da (.lst (vacc ++ [u]))) a := fun {a} q => by
                  by_cases z : a = Da
                  · rw [z]; exact .inl ⟨_, upd_same⟩
                  · rcases q with ⟨x, q⟩ | ⟨x, q⟩
                    · exact .inl ⟨x, by rw [upd_ne z]; exact q⟩
                    · exact .inr ⟨x, by rw [upd_ne z]; exact q⟩
                have s10 : SR X.K σ3 (upd H5 Da (.lst (vacc ++ [u]))) δ5 L6 (Da :: R) := s9.step kU (fun b hb => by rw [List.mem_singleton.mp hb]; simp) s9.nd (fun a ha => .inl ha) fun a ha => ioU (s9.tr a ha)
                have r8 : Rps X.K H5 (L6 ++ (Da :: R)) 0 (acc ++ [y]) (vacc ++ [u]) [] := r7.app (by simp only [Rps]; exact ⟨u, [], [], [], rfl, rfl, ru, rfl, rfl⟩)
                have r9 : Rps X.K (upd H5 Da (.lst (vacc ++ [u]))) (L6 ++ (Da :: R)) 0 (acc ++ [y]) (vacc ++ [u]) [] := r8.step kU dN (fun a ha => .inl ha) fun _ z => by cases z
                have p8 := J1.step _ _ _ _ [Da] p7 kU dN (fun a ha => .inl ha)
                have k46 : Kp H4 (upd H5 Da (.lst (vacc ++ [u]))) (Da :: L5) := ⟨fun a o e n => by
                  have n1 : a ≠ Da := fun z => n (by rw [z]; exact List.mem_cons_self)
                  rw [upd_ne n1]
                  exact k6.kp a o e fun z => n (List.mem_cons_of_mem _ z), fun a ha => by
                  rcases List.mem_cons.mp ha with rfl | ha
                  · exact .inl ⟨_, hD6⟩
                  · exact s7.own a ha⟩
                have w56 : Nw H4 (Da :: L5) (Da :: L6) := fun a ha => by
                  rcases List.mem_cons.mp ha with rfl | ha
                  · exact .inl List.mem_cons_self
                  · exact (w6.right a ha).imp_left fun q => List.mem_cons_of_mem _ q
                refine ⟨vacc, hD7, by rw [← r7.len]; exact hsz, ?_⟩
                exact next (k24.trans w25 k46) (Nw.trans k24 w25 w56) (by rw [← s10.len, hσ3, hσ]) s10 upd_same r9 p8 k4
              · exact k4.elim
    · refine .inl ⟨J1.stop H2 _ i p4 (by omega), ?_⟩
      have e : items.drop i = [] := List.drop_eq_nil_of_le (by omega)
      rw [e] at k4
      simp only [compL] at k4
      exact k4 H2 L3 vacc ⟨fun _ _ e _ => e, fun a ha => by
        rcases List.mem_cons.mp ha with rfl | ha
        · exact .inl ⟨_, hD4⟩
        · exact s4.own a ha⟩ Nw.refl (s4.unwiped hw2) hD4 r4
end
end DL
namespace DL
open PySem PySem.Spec L2
open PyProof.Rows hiding St
def eCompN (n : Nat) (t : Tgt) (vs : List Nat) (it : DL.Env → IRes) (cond : DL.Env → TRes) (elt : EV) : EV := fun δ => if δ.length = n then (match it δ with
  | .ok ds δ1 => if δ1.length = n then eComp t vs (fun _ => .ok ds δ1) cond elt δ else .bad
  | .exc x δ' => .exc x δ'
  | .bad => .bad) else .bad
abbrev W0 : WX := fun _ _ _ _ => False
section
variable {X : Cx} {W : WX} {fi : DL.Env → IRes} {t : Tgt} {vs : List Nat} {cond : DL.Env → TRes} {elt : EV}
theorem sim_compN {wi : TI} {n : Nat} (qi : ∀ σ H δ L R Q, SR X.K σ H δ L R → IOk X W σ H L R Q (fi δ) → wi σ H Q) :
    SimE X W (tLc wi (canG X.K (outW n vs) t) (canT X W0 cond) (canE X W0 elt) vs) (eCompN n t vs fi cond elt) := by
  intro σ H δ L R Q s ok
  unfold eCompN at ok
  split at ok
  · rename_i hl
    cases hf : fi δ with
    | bad => rw [hf] at ok; exact ok.elim
    | exc x δ' =>
      rw [hf] at ok
      exact qi σ H δ L R _ s (by rw [hf]; exact ok)
    | ok ds δ1 =>
      rw [hf] at ok
      simp only at ok
      split at ok
      · rename_i hl1
        refine sim_comp (n := n) (W := W) (fi := fi) (fun _ _ _ _ _ _ => trivial) qi W0 (fun _ _ _ _ z => z) σ H δ L R Q hl s ?_ (fun ds' δ' e => by rw [hf] at e; cases e; exact hl1)
        unfold eComp at ok ⊢
        rw [hf]
        exact ok
      · exact ok.elim
  · exact ok.elim
end
section
variable {X : Cx} {W : WX} {elt tg iter : Expr} {ifs : List Expr} {scope : Scope} {own : List (Str × Nat)} {pos : Pos} {fi : DL.Env → IRes} {t : Tgt} {cond : DL.Env → TRes} {fe : EV} {n : Nat}
theorem pts_can (h : DT X W elt cond) : PTs X [elt] (canT X W cond) := pts_one h.can
theorem pts_yes : PTs X [] (canT X W tYesD) := ⟨fun pins s σ H Q I ⟨δ, L, R, s1, ok⟩ => pts_nil.run pins s σ H Q I (ok H L s1.kp Nw.refl s1)⟩
theorem de_comp (hc : X.calm = true) (hN : X.N.Nodup) (hi : DI X W tg iter fi) (ok : BlkOk X.N X.env.scope scope own)
    (hg : ∀ (s : Shared) (H : Hp) (C : Addr) (cl : List (Str × Addr)) (fp : List Addr), DG (X.blk s H scope (compEnvC scope cl C X.env) fp) (outW n (own.map (·.2))) tg t)
    (ht : ∀ (s : Shared) (H : Hp) (C : Addr) (cl : List (Str × Addr)) (fp : List Addr), PTs (X.blk s H scope (compEnvC scope cl C X.env) fp) ifs (canT (X.blk s H scope (compEnvC scope cl C X.env) fp) W0 cond))
    (he : ∀ (s : Shared) (H : Hp) (C : Addr) (cl : List (Str × Addr)) (fp : List Addr), DE (X.blk s H scope (compEnvC scope cl C X.env) fp) W0 elt fe) (hs : ∀ x, foldedSetIterable iter X.env x = pure x := by intro _; rfl) :
    DE X W (.ListComp elt [⟨tg, iter, ifs, 0⟩] scope pos) (eCompN n t (own.map (·.2)) fi cond fe) := by
  obtain ⟨wi, pi, qi⟩ := hi.ex
  exact ⟨_, pe_lc (g := canG X.K (outW n (own.map fun (x : Str × Nat) => x.2)) t) (tt := canT X W0 cond) (te := canE X W0 fe) hc hN pi ok (fun s H C cl fp => (hg s H C cl fp).can) ht (fun s H C cl fp => (he s H C cl fp).can) hs, sim_compN qi⟩
variable {F : List Nat}
theorem ds_comp {i : Nat} {z : Bool} {y : Str} {py spos : Pos} (hc : X.calm = true) (hN : X.N.Nodup) (hy : X.N[i]? = some y) (hyl : X.env.scope.names.lookup y = some .local)
    (hsw : swapsWith (.ListComp elt [⟨tg, iter, ifs, 0⟩] scope pos) (some (.Name y py)) spos.line X.env = pure true) (hF : i ∉ F) (hpg : PG X (.Name y py) (gName i)) (hi : DI X W tg iter fi) (ok : BlkOk X.N X.env.scope scope own)
    (hg : ∀ (s : Shared) (H : Hp) (C : Addr) (cl : List (Str × Addr)) (fp : List Addr), DG (X.blk s H scope (compEnvC scope cl C X.env) fp) (outW n (own.map (·.2))) tg t)
    (ht : ∀ (s : Shared) (H : Hp) (C : Addr) (cl : List (Str × Addr)) (fp : List Addr), PTs (X.blk s H scope (compEnvC scope cl C X.env) fp) ifs (canT (X.blk s H scope (compEnvC scope cl C X.env) fp) W0 cond))
    (he : ∀ (s : Shared) (H : Hp) (C : Addr) (cl : List (Str × Addr)) (fp : List Addr), DE (X.blk s H scope (compEnvC scope cl C X.env) fp) W0 elt fe) (hs : ∀ x, foldedSetIterable iter X.env x = pure x := by intro _; rfl) :
    DS X W F (.Assign [.Name y py] (.ListComp elt [⟨tg, iter, ifs, 0⟩] scope pos) spos) (sAsg (.nm (z, i)) (eCompN n t (own.map (·.2)) fi cond fe)) := by
  obtain ⟨wi, pi, qi⟩ := hi.ex
  refine ⟨_, ps_setLc (g := canG X.K (outW n (own.map fun (x : Str × Nat) => x.2)) t) (tt := canT X W0 cond) (te := canE X W0 fe) hc hN hy hyl hsw pi ok (fun s H C cl fp => (hg s H C cl fp).can) ht (fun s H C cl fp => (he s H C cl fp).can) hs, ?_⟩
  refine asg_sim (sim_compN qi) fun v σ H δ L R l m d δ' Q s rp hs q => ?_
  obtain ⟨L', h1, h2⟩ := setOne_ok s rp hs
  exact q _ L' h1 h2 (fix_set hF)
end
theorem Rps.get' {K : PySem.W.Frag} {H : Hp} {N : As} : ∀ {m : Nat} {ds : List D} {vs : List V} {l : As} {i : Nat} {d : D}, Rps K H N m ds vs l → ds[i]? = some d → ∃ v l1, vs[i]? = some v ∧ Rp K H N m d v l1
  | m, [], vs, l, i, d, h, e => by simp at e
  | m, x :: ds, vs, l, 0, d, h, e => by
    simp only [Rps] at h; obtain ⟨v, vr, l1, l2, rfl, el, r1, r2⟩ := h
    have : x = d := by simpa using e
    subst this; exact ⟨v, l1, rfl, r1⟩
  | m, x :: ds, vs, l, i + 1, d, h, e => by
    simp only [Rps] at h; obtain ⟨v, vr, l1, l2, rfl, el, r1, r2⟩ := h
    obtain ⟨u, k, h1, h2⟩ := Rps.get' r2 (i := i) (by simpa using e)
    exact ⟨u, k, by simpa using h1, h2⟩
def eIxO (j : Nat) (p : List Nat) (fi : EV) : EV := fun δ => match δ[j]? with
  | some (some (_ + 1, d0)) => (match d0.at p with
    | some (.lst _) => (match fi δ with
      | .ok _ (.int i) δ1 => (match δ1[j]? with
        | some (some (k + 1, d1)) => (match d1.at p with
          | some (.lst ds) => (match atI ds i with
            | some d => if d.atom || k == 0 then .ok 0 d δ1 else .bad
            | none => .bad)
          | _ => .bad)
        | _ => .bad)
      | .exc x δ' => .exc x δ'
      | _ => .bad)
    | _ => .bad)
  | _ => .bad
section
variable {X : Cx} {W : WX} {o i : Expr} {fi : EV} {j : Nat} {p : List Nat} {pos : Pos}
theorem de_ixo (ho : DP X o j p) (hi : DE X W i fi) (hs : PlainIx i) : DE X W (.Subscript o i pos) (eIxO j p fi) := by
  obtain ⟨to, po, qo⟩ := ho.ex
  obtain ⟨ti, pi, qi⟩ := hi.ex
  refine ⟨_, pe_ix ix_list po pi hs, fun σ H δ L R Q s ok => ?_⟩
  unfold eIxO at ok
  split at ok
  · rename_i m0 d0 hd0
    split at ok
    · rename_i ds0 ha0
      obtain ⟨v, a, vs0, g1, g2, g3⟩ := own_at s hd0 ha0
      refine qo σ H v (.ref a) _ g1 g2 ?_
      refine qi σ H δ L R _ s ?_
      split at ok
      · rename_i mi ii δ1 hf
        rw [hf]
        intro vi H1 l L1 k w s1 ri
        have zi : vi = .int ii ∧ l = [] := by simpa only [Rp] using ri
        obtain ⟨rfl, rfl⟩ := zi
        split at ok
        · rename_i kk d1 hd1
          split at ok
          · rename_i ds ha1
            split at ok
            · rename_i d hd
              split at ok
              · rename_i hc
                have s1' : SR X.K σ H1 δ1 L1 R := s1
                obtain ⟨v', a', vs, l', L2, f1, f2, f3, f4, f5, _⟩ := SR.mut (lt := []) s1' hd1 ha1
                rw [g1] at f1; cases f1
                have := PathV.uniq (PathV.step k g2) f2
                cases this
                have hx : ∃ u, atI vs ii = some u ∧ Rp X.K H1 (L1 ++ R) 0 d u [] := by
                  unfold atI at hd ⊢
                  rw [← f5.len]
                  cases e : ixN ds.length ii with
                  | none => rw [e] at hd; cases hd
                  | some q =>
                    rw [e] at hd
                    obtain ⟨u, l1, h1, h2⟩ := Rps.get' f5 (i := q) hd
                    refine ⟨u, h1, ?_⟩
                    rcases (show d.atom = true ∨ kk = 0 by simpa using hc) with z | z
                    · have r0 := atom_any (k := 0) z h2
                      have := r0.zero; subst this; exact r0
                    · subst z
                      have := h2.zero; subst this; exact h2
                obtain ⟨u, h1, h2⟩ := hx
                exact ⟨a, vs, ii, u, rfl, rfl, SqL.of f3, h1, ok u H1 [] L1 k w s1 h2⟩
              · exact ok.elim
            · exact ok.elim
          · exact ok.elim
        · exact ok.elim
      · rename_i x δ1 hf
        rw [hf]; exact ok
      · exact ok.elim
    · exact ok.elim
  · exact ok.elim
def eLenO (j : Nat) (p : List Nat) : EV := fun δ => match δ[j]? with
  | some (some (_ + 1, d0)) => (match d0.at p with
    | some (.lst ds) => .ok 0 (.int ds.length) δ
    | _ => .bad)
  | _ => .bad
theorem de_leno {e' : Expr} (mk : ∀ t, PE X o t → PE X e' (tCB (fun xs H Q => ∃ x n, xs = [x] ∧ LenV X.K x H n ∧ Q (.int n) H) (tCons t tNil))) (ho : DP X o j p) : DE X W e' (eLenO j p) := by
  obtain ⟨to, po, qo⟩ := ho.ex
  refine ⟨_, mk to po, fun σ H δ L R Q s ok => ?_⟩
  unfold eLenO at ok
  split at ok
  · rename_i m0 d0 hd0
    split at ok
    · rename_i ds ha0
      obtain ⟨v, a, vs, l', L2, f1, f2, f3, f4, f5, _⟩ := SR.mut (lt := []) s hd0 ha0
      refine qo σ H v (.ref a) _ f1 f2 ?_
      exact ⟨.ref a, vs.length, rfl, .inl ⟨vs, SqL.of f3, rfl⟩, by rw [← f5.len]; exact ok _ H [] L s.kp Nw_nil s (by simp [Rp])⟩
    · exact ok.elim
  · exact ok.elim
end
section
variable {P : Program} {w : World} {K : PySem.W.Frag} {mg : Str → Option Value} {base : Heap}
structure FD (P : Program) (w : World) (K : PySem.W.Frag) (mg : Str → Option Value) (base : Heap) (k : Nat) (x : Str) (ps : List Str) (pm : List Nat) (φ : FV) : Prop where
  ex : ∃ f fd, mg x = some (.ref f) ∧ PySem.W.keepIn K (.ref f) = true ∧ Binds K fd ps [] ∧ FnOk P w K mg base (L2.CX P w) k f fd ps (spD K mg pm φ)
theorem FD.eq {k : Nat} {x : Str} {ps : List Str} {pm : List Nat} {φ ψ : FV} (h : FD P w K mg base k x ps pm φ) (e : φ = ψ) : FD P w K mg base k x ps pm ψ := e ▸ h
theorem FD.mono {j k : Nat} {x : Str} {ps : List Str} {pm : List Nat} {φ : FV} (h : FD P w K mg base j x ps pm φ) (hj : j ≤ k) : FD P w K mg base k x ps pm φ := by
  obtain ⟨f, fd, h1, h2, h3, h4⟩ := h.ex
  exact ⟨f, fd, h1, h2, h3, h4.mono hj⟩
theorem ok_D {x qual : Str} {params : Arguments} {st : List Stmt} {scope : Scope} {f : Addr} {fd : FuncData} {N ps : List Str} {k : Nat} {pm : List Nat} {body : SV} (Fn : FunD K x qual params st scope [] [] f fd)
    (S : FnScope N ps scope) (hl : pm.length = ps.length)
    (hbody : ∀ (cdv : Value) (A : Around) (outer : List PySem.Env) (s : Shared) (H : Hp) (E : XK), Room k (A.deeper (envOfC qual scope s.heap.objs.size f cdv)) →
      DSs (cxOf (L2.CX P w) P w K mg base N qual scope f cdv A outer s H E) (WF E) (lentsOf 0 pm) st body) :
    FnOk P w K mg base (L2.CX P w) (k + 1) f fd ps (spD K mg pm (runF pm N.length body)) := by
  have hN : pm.length ≤ N.length := by
    have := congrArg List.length S.pre
    rw [List.length_take] at this; omega
  refine FunD.ok Fn S (fun vs H Q E h => ?_) fun cdv A outer s H vs Q E hr hsp => ?_
  · obtain ⟨ds, l, R, h, _⟩ := h
    rw [h.len, hl]
  · obtain ⟨t, p, q⟩ := (hbody cdv A outer s H E hr).ex
    refine ⟨t, p, ?_⟩
    obtain ⟨ds, l, R, ha, nd, tr, hq⟩ := hsp
    have hvl := ha.len
    have sr : SR K (L2.start N vs) H (startD pm ds N.length) l R := ⟨⟨l, List.Perm.refl _, srs_start N.length ha hN⟩, nd, tr⟩
    have h0 : ∀ i, i ∈ lentsOf 0 pm → (L2.start N vs)[i]? = (vs.map some)[i]? := fun i hi => by
      have := lents_lt 0 pm i hi
      unfold L2.start
      rw [List.getElem?_append_left (by simp; omega)]
    refine q _ H _ l R _ sr ?_
    unfold runF at hq
    cases hb : body (startD pm ds N.length) with
    | nx δ' =>
      rw [hb] at hq
      simp only at hq
      cases ho : outsOf pm δ' with
      | none => rw [ho] at hq; exact hq.elim
      | some outs =>
        rw [ho] at hq
        intro σ' H' L' k1 w1 s1 fx
        obtain ⟨l', m1, m2, m3⟩ := outs_at s1 ho hvl fx h0
        exact hq .non H' [] l' k1 (Nw.both (fun _ z => by cases z) fun a h => w1 a (m1 a h)) m2 s1.tr (by simp [Rp]) m3
    | ret m d δ' =>
      rw [hb] at hq
      simp only at hq
      cases ho : outsOf pm δ' with
      | none => rw [ho] at hq; exact hq.elim
      | some outs =>
        rw [ho] at hq
        intro v σ' H' l2 L' k1 w1 s1 fx rp
        obtain ⟨l', m1, m2, m3⟩ := outs_at s1 ho hvl fx h0
        refine hq v H' l2 l' k1 (Nw.both w1.left fun a h => w1.right a (m1 a h)) m2 s1.tr (rp.sub fun a ha => ?_) m3
        exact (List.mem_append.mp ha).elim (fun z => List.mem_append_left _ (m1 a z)) fun z => List.mem_append_right _ z
    | exc x δ' =>
      rw [hb] at hq
      simp only at hq
      cases ho : outsOf pm δ' with
      | none => rw [ho] at hq; exact hq.elim
      | some outs =>
        rw [ho] at hq
        intro c dx σ' H' L' k1 w1 s1 fx rx
        obtain ⟨l', m1, m2, m3⟩ := outs_at s1 ho hvl fx h0
        refine hq c dx H' l' k1 (fun a h => w1 a (m1 a h)) m2 s1.tr (rx.step Kp.refl (fun _ z => by cases z) fun a ha => .inl ?_) m3
        exact (List.mem_append.mp ha).elim (fun z => List.mem_append_left _ (m1 a z)) fun z => List.mem_append_right _ z
    | brk δ' => rw [hb] at hq; exact hq.elim
    | cnt δ' => rw [hb] at hq; exact hq.elim
    | bad => rw [hb] at hq; exact hq.elim
theorem fd_D {x qual : Str} {params : Arguments} {st : List Stmt} {scope : Scope} {f : Addr} {fd : FuncData} {N ps : List Str} {k : Nat} {pm : List Nat} {body : SV} (Fn : FunD K x qual params st scope [] [] f fd) (hm : mg x = some (.ref f))
    (hbind : ∀ (kV doc pm : Value) (an : Option Addr) (cdv ct : Value) (us : List Value), us.length = ps.length → bindArgs (PySem.W.fnOf x qual params st scope .none kV doc pm an cdv ct) ⟨us, []⟩ = pure (ps.zip us))
    (S : FnScope N ps scope) (hl : pm.length = ps.length)
    (hbody : ∀ (cdv : Value) (A : Around) (outer : List PySem.Env) (s : Shared) (H : Hp) (E : XK), Room k (A.deeper (envOfC qual scope s.heap.objs.size f cdv)) →
      DSs (cxOf (L2.CX P w) P w K mg base N qual scope f cdv A outer s H E) (WF E) (lentsOf 0 pm) st body) :
    FD P w K mg base (k + 1) x ps pm (runF pm N.length body) :=
  ⟨f, fd, hm, Fn.kp, FunD.bindsN Fn hbind, ok_D Fn S hl hbody⟩
end
section
variable {X : Cx} {W : WX} {e : Expr} {es : List Expr} {ks : List (Option Nat)} {fs : DL.Env → ARes} {pm : List Nat} {φ : FV} {j k : Nat} {x : Str} {ps : List Str} {p pos : Pos}
theorem d_call (c : FD X.prog X.w X.K X.mg X.base k x ps pm φ) (tk : Takes X W) (hr : Room j X.A) (hk : k ≤ j) (hg : Gl X x) (h : DC X W (e :: es) ks fs)
    (hdb : (x == ("__debug__" : Str)) = false := by decide) (he : starEach (e :: es) X.env = (false, eval e X.env) :: starEach es X.env := by rfl) (hpl : (backTo pos (starEach es X.env)).any (·.1) = false := by rfl) :
    DE X W (.Call (.Name x p) (e :: es) [] pos) (eCall pm ks φ fs) := by
  obtain ⟨f, fd, h1, h2, h3, h4⟩ := c.ex
  exact de_call (fun t ha => pe_callS h4 (hr.mono hk) hg h1 h2 h3 (fun σ => passAt tk σ) ha hdb he hpl) h
end
def eDict0 : EV := fun δ => .ok 1 (.dct [] []) δ
theorem d_dict0 {X : Cx} {W : WX} {pos : Pos} : DE X W (.Dict [] [] pos) eDict0 := by
  refine ⟨_, pe_dnewK, fun σ H δ L R Q s ok p hp => ?_⟩
  have io : ∀ {a}, IsOwn H a → IsOwn (upd H p (.dK [])) a := fun {a} q => q.imp (fun ⟨x, e⟩ => ⟨x, upd_ext hp _ _ e⟩) fun ⟨x, e⟩ => ⟨x, upd_ext hp _ _ e⟩
  have pn : p ∉ L ++ R := fun z => (((List.mem_append.mp z).elim (s.own p) (s.tr p)) : IsOwn H p).ne hp
  have s3 : SR X.K σ (upd H p (.dK [])) δ L ([p] ++ R) := s.step (kp_upd hp) (fun _ z => by cases z) ((List.perm_middle (l₁ := L) (l₂ := R) (a := p)).nodup_iff.mpr (List.nodup_cons.mpr ⟨pn, s.nd⟩)) (fun a ha => by
      rcases List.mem_cons.mp ha with rfl | ha
      · exact .inr hp
      · exact .inl ha) fun a ha => by
      rcases List.mem_cons.mp ha with rfl | ha
      · exact .inr ⟨_, upd_same⟩
      · exact io (s.tr a ha)
  refine ok (.ref p) _ [p] L ⟨fun a o e _ => upd_ext hp _ _ e, s.own⟩ (Nw.both (fun a ha => .inr (by rw [List.mem_singleton.mp ha]; exact hp)) Nw.refl) s3 ?_
  simp only [Rp]
  exact ⟨p, [], [], rfl, rfl, upd_same, rfl, by simp [Rps]⟩
theorem okTy_int : okTy "int" = true := by decide +kernel
theorem okTy_bool : okTy "bool" = true := by decide +kernel
theorem okTy_str : okTy "str" = true := by decide +kernel
theorem okTy_list : okTy "list" = true := by decide +kernel
theorem okTy_tuple : okTy "tuple" = true := by decide +kernel
theorem okTy_dict : okTy "dict" = true := by decide +kernel
theorem d_gint {X : Cx} {W : WX} {x : Str} {i : Int} {pos : Pos} (h : ∃ t, X.mg x = some (.int i t)) (hg : Gl X x) (hd : (x == ("__debug__" : Str)) = false := by decide) : DE X W (.Name x pos) (eC (.int i)) := by
  obtain ⟨t, h⟩ := h
  exact de_c (pe_glob hg h (v := .int i) ⟨t, rfl⟩ hd) fun _ _ => by simp [Rp]
theorem law_end {K : PySem.W.Frag} {mg : Str → Option Value} {φ : FV} {H : Hp} {a : Addr} {ns : List Int} {m : Nat} {outs : List D} (hO : Only H) (hS : SqL K H a (ns.map V.int)) (h : φ [.scr ns] = .ok m (.bl true) outs) :
    spD K mg [0] φ [.ref a] H (fun v _ => v = .bl true) fun _ _ _ => False := by
  have sc : ScrAt K H a (ns.map V.int) := by
    rcases hS with (q | ⟨o, q⟩) | q
    · rcases hO a with z | ⟨o, xs, z⟩ <;> rw [z] at q <;> cases q
    · exact .inl ⟨o, q⟩
    · exact .inr q
  refine ⟨[.scr ns], [], [], ⟨.scr ns, [], .ref a, [], [], [], rfl, rfl, rfl, by simp only [Rp]; exact ⟨a, rfl, sc, trivial⟩, rfl, rfl, rfl⟩, List.nodup_nil, (fun _ z => by cases z), ?_⟩
  rw [h]
  intro v H' l2 L' _ _ _ _ r _
  simp only [Rp] at r
  exact r.1
section
variable {X : Cx} {W : WX} {a b c e o : Expr} {fa fb fc : EV} {fs : DL.Env → ARes} {es : List Expr} {pos p : Pos} {j : Nat}
theorem d_int {i : Int} : DE X W (.Constant (.int i) j pos) (eC (.int i)) := de_c pe_int fun _ _ => by simp [Rp]
theorem d_bl {i : Bool} : DE X W (.Constant (.bool i) j pos) (eC (.bl i)) := de_c pe_bl fun _ _ => by simp [Rp]
theorem d_non : DE X W (.Constant .none j pos) (eC .non) := de_c pe_non fun _ _ => by simp [Rp]
theorem d_str {i : Str} : DE X W (.Constant (.str i) j pos) (eC (.str i)) := de_c pe_str fun _ _ => by simp [Rp]
theorem d_add (ha : DE X W a fa) (hb : DE X W b fb) : DE X W (.BinOp a .Add b pos) (e2 gAdd fa fb) := de_2 (fun _ _ p q => pe_op op_addAll p q) opf_add ha hb
theorem d_sub (ha : DE X W a fa) (hb : DE X W b fb) : DE X W (.BinOp a .Sub b pos) (e2 DL.gSub fa fb) := de_2 (fun _ _ p q => pe_op op_sub p q) opf_sub ha hb
theorem d_mul (ha : DE X W a fa) (hb : DE X W b fb) : DE X W (.BinOp a .Mult b pos) (e2 gMul fa fb) := de_2 (fun _ _ p q => pe_op op_mulAll p q) opf_mul ha hb
theorem d_div (ha : DE X W a fa) (hb : DE X W b fb) : DE X W (.BinOp a .FloorDiv b pos) (e2 gDiv fa fb) := de_2 (fun _ _ p q => pe_op op_fdivX p q) opf_div ha hb
theorem d_mod (ha : DE X W a fa) (hb : DE X W b fb) : DE X W (.BinOp a .Mod b pos) (e2 gMod fa fb) := de_2 (fun _ _ p q => pe_op op_modN p q) opf_mod ha hb
theorem d_pow (ha : DE X W a fa) (hb : DE X W b fb) : DE X W (.BinOp a .Pow b pos) (e2 gPow fa fb) := de_2 (fun _ _ p q => pe_op op_pow p q) opf_pow ha hb
theorem d_neg (ha : DE X W a fa) : DE X W (.UnaryOp .USub a pos) (e1 gNeg fa) := de_1 (fun _ p => pe_un un_neg p) opf_neg ha
theorem d_ix (ha : DE X W a fa) (hb : DE X W b fb) (hs : PlainIx b) : DE X W (.Subscript a b pos) (e2 gIx fa fb) := de_2 (fun _ _ p q => pe_ix ix_seq p q hs) opf_ix ha hb
abbrev gLt := gCmp fun i j => decide (i < j)
abbrev gLe := gCmp fun i j => decide (i ≤ j)
abbrev gGt := gCmp fun i j => decide (j < i)
abbrev gGe := gCmp fun i j => decide (j ≤ i)
theorem d_eq (hu : X.A.units + 64 < cLine) (ha : DE X W a fa) (hb : DE X W b fb) : DE X W (.Compare a [.Eq] [b] pos) (e2 gEq fa fb) := de_cmp (op_eqAll hu) opf_eq ha hb (nomark _)
theorem d_ne (hu : X.A.units + 64 < cLine) (ha : DE X W a fa) (hb : DE X W b fb) : DE X W (.Compare a [.NotEq] [b] pos) (e2 gNe fa fb) := de_cmp (op_neAll hu) opf_ne ha hb (nomark _)
theorem d_lt (ha : DE X W a fa) (hb : DE X W b fb) : DE X W (.Compare a [.Lt] [b] pos) (e2 gLt fa fb) := de_cmp op_lt (opf_cmp _) ha hb (nomark _)
theorem d_le (ha : DE X W a fa) (hb : DE X W b fb) : DE X W (.Compare a [.LtE] [b] pos) (e2 gLe fa fb) := de_cmp op_le (opf_cmp _) ha hb (nomark _)
theorem d_gt (ha : DE X W a fa) (hb : DE X W b fb) : DE X W (.Compare a [.Gt] [b] pos) (e2 gGt fa fb) := de_cmp op_gt (opf_cmp _) ha hb (nomark _)
theorem d_ge (ha : DE X W a fa) (hb : DE X W b fb) : DE X W (.Compare a [.GtE] [b] pos) (e2 gGe fa fb) := de_cmp op_ge (opf_cmp _) ha hb (nomark _)
theorem d_is (ha : DE X W a fa) (hb : DE X W b fb) : DE X W (.Compare a [.Is] [b] pos) (e2 gIs fa fb) := de_cmp op_isAll opf_is ha hb (nomark _)
theorem d_isnot (ha : DE X W a fa) (hb : DE X W b fb) : DE X W (.Compare a [.IsNot] [b] pos) (e2 gIsNot fa fb) := de_cmp op_notAll opf_isNot ha hb (nomark _)
theorem d_in (ha : DE X W a fa) (hb : DE X W b fb) (hm : behindInMarks .In b = false) : DE X W (.Compare a [.In] [b] pos) (e2 gIn fa fb) := de_cmp op_in_seq opf_in ha hb hm
theorem d_notin (ha : DE X W a fa) (hb : DE X W b fb) (hm : behindInMarks .NotIn b = false) : DE X W (.Compare a [.NotIn] [b] pos) (e2 gNotIn fa fb) := de_cmp op_notIn_seq opf_notIn ha hb hm
theorem t_eq (hu : X.A.units + 64 < cLine) (ha : DE X W a fa) (hb : DE X W b fb) : DT X W (.Compare a [.Eq] [b] pos) (tT (e2 gEq fa fb)) := dt_cmp (op_eqAll hu) opf_eq ha hb (nomark _)
theorem t_ne (hu : X.A.units + 64 < cLine) (ha : DE X W a fa) (hb : DE X W b fb) : DT X W (.Compare a [.NotEq] [b] pos) (tT (e2 gNe fa fb)) := dt_cmp (op_neAll hu) opf_ne ha hb (nomark _)
theorem t_lt (ha : DE X W a fa) (hb : DE X W b fb) : DT X W (.Compare a [.Lt] [b] pos) (tT (e2 gLt fa fb)) := dt_cmp op_lt (opf_cmp _) ha hb (nomark _)
theorem t_le (ha : DE X W a fa) (hb : DE X W b fb) : DT X W (.Compare a [.LtE] [b] pos) (tT (e2 gLe fa fb)) := dt_cmp op_le (opf_cmp _) ha hb (nomark _)
theorem t_gt (ha : DE X W a fa) (hb : DE X W b fb) : DT X W (.Compare a [.Gt] [b] pos) (tT (e2 gGt fa fb)) := dt_cmp op_gt (opf_cmp _) ha hb (nomark _)
theorem t_ge (ha : DE X W a fa) (hb : DE X W b fb) : DT X W (.Compare a [.GtE] [b] pos) (tT (e2 gGe fa fb)) := dt_cmp op_ge (opf_cmp _) ha hb (nomark _)
theorem t_is (ha : DE X W a fa) (hb : DE X W b fb) : DT X W (.Compare a [.Is] [b] pos) (tT (e2 gIs fa fb)) := dt_cmp op_isAll opf_is ha hb (nomark _)
theorem t_isnot (ha : DE X W a fa) (hb : DE X W b fb) : DT X W (.Compare a [.IsNot] [b] pos) (tT (e2 gIsNot fa fb)) := dt_cmp op_notAll opf_isNot ha hb (nomark _)
theorem t_in (ha : DE X W a fa) (hb : DE X W b fb) (hm : behindInMarks .In b = false) : DT X W (.Compare a [.In] [b] pos) (tT (e2 gIn fa fb)) := dt_cmp op_in_seq opf_in ha hb hm
theorem t_notin (ha : DE X W a fa) (hb : DE X W b fb) (hm : behindInMarks .NotIn b = false) : DT X W (.Compare a [.NotIn] [b] pos) (tT (e2 gNotIn fa fb)) := dt_cmp op_notIn_seq opf_notIn ha hb hm
variable {x : Str}
theorem d_len (hm : X.mg "len" = none) (hg : Gl X "len") (h : DA X W (e :: es) fs) (he : starEach (e :: es) X.env = (false, eval e X.env) :: starEach es X.env := by rfl) (hpl : (backTo pos (starEach es X.env)).any (·.1) = false := by rfl) : DE X W (.Call (.Name "len" p) (e :: es) [] pos) (eN gLen fs) := de_n (fun t ha => pe_callB call_len hg hm (by decide +kernel) ha (he := he) (hpl := hpl)) opf_len h
theorem d_abs (hm : X.mg "abs" = none) (hg : Gl X "abs") (h : DA X W (e :: es) fs) (he : starEach (e :: es) X.env = (false, eval e X.env) :: starEach es X.env := by rfl) (hpl : (backTo pos (starEach es X.env)).any (·.1) = false := by rfl) : DE X W (.Call (.Name "abs" p) (e :: es) [] pos) (eN gAbs fs) := de_n (fun t ha => pe_callB call_abs hg hm (by decide +kernel) ha (he := he) (hpl := hpl)) opf_abs h
theorem d_max (hc : X.calm = true) (hm : X.mg "max" = none) (hg : Gl X "max") (h : DA X W (e :: es) fs) (he : starEach (e :: es) X.env = (false, eval e X.env) :: starEach es X.env := by rfl) (hpl : (backTo pos (starEach es X.env)).any (·.1) = false := by rfl) : DE X W (.Call (.Name "max" p) (e :: es) [] pos) (eN gMax fs) := de_n (fun t ha => pe_callB (CallR.or (call_max2 hc) (cr_max hc)) hg hm (by decide +kernel) ha (he := he) (hpl := hpl)) opf_max h
theorem d_min (hc : X.calm = true) (hm : X.mg "min" = none) (hg : Gl X "min") (h : DA X W (e :: es) fs) (he : starEach (e :: es) X.env = (false, eval e X.env) :: starEach es X.env := by rfl) (hpl : (backTo pos (starEach es X.env)).any (·.1) = false := by rfl) : DE X W (.Call (.Name "min" p) (e :: es) [] pos) (eN gMin fs) := de_n (fun t ha => pe_callB (CallR.or (call_min2 hc) (cr_min hc)) hg hm (by decide +kernel) ha (he := he) (hpl := hpl)) opf_min h
theorem d_sum (hc : X.calm = true) (hm : X.mg "sum" = none) (hg : Gl X "sum") (h : DA X W (e :: es) fs) (he : starEach (e :: es) X.env = (false, eval e X.env) :: starEach es X.env := by rfl) (hpl : (backTo pos (starEach es X.env)).any (·.1) = false := by rfl) : DE X W (.Call (.Name "sum" p) (e :: es) [] pos) (eN gSum fs) := de_n (fun t ha => pe_callB (cr_sum hc) hg hm (by decide +kernel) ha (he := he) (hpl := hpl)) opf_sum h
theorem d_sorted (hm : X.mg "sorted" = none) (hg : Gl X "sorted") (h : DA X W (e :: es) fs) (he : starEach (e :: es) X.env = (false, eval e X.env) :: starEach es X.env := by rfl) (hpl : (backTo pos (starEach es X.env)).any (·.1) = false := by rfl) : DE X W (.Call (.Name "sorted" p) (e :: es) [] pos) (eN gSorted fs) := de_n (fun t ha => pe_callB cr_sortedI hg hm (by decide +kernel) ha (he := he) (hpl := hpl)) opf_sorted h
theorem d_list (hm : X.mg "list" = none) (hg : Gl X "list") (h : DA X W (e :: es) fs) (he : starEach (e :: es) X.env = (false, eval e X.env) :: starEach es X.env := by rfl) (hpl : (backTo pos (starEach es X.env)).any (·.1) = false := by rfl) : DE X W (.Call (.Name "list" p) (e :: es) [] pos) (eN gList fs) := de_n (fun t ha => pe_callTy call_list_of hg hm (by decide +kernel) ha (he := he) (hpl := hpl)) opf_list h
theorem d_tuple (hm : X.mg "tuple" = none) (hg : Gl X "tuple") (h : DA X W (e :: es) fs) (he : starEach (e :: es) X.env = (false, eval e X.env) :: starEach es X.env := by rfl) (hpl : (backTo pos (starEach es X.env)).any (·.1) = false := by rfl) : DE X W (.Call (.Name "tuple" p) (e :: es) [] pos) (eN gTuple fs) := de_n (fun t ha => pe_callTy call_tuple_of hg hm (by decide +kernel) ha (he := he) (hpl := hpl)) opf_tuple h
theorem d_toint (hm : X.mg "int" = none) (hg : Gl X "int") (h : DA X W (e :: es) fs) (he : starEach (e :: es) X.env = (false, eval e X.env) :: starEach es X.env := by rfl) (hpl : (backTo pos (starEach es X.env)).any (·.1) = false := by rfl) : DE X W (.Call (.Name "int" p) (e :: es) [] pos) (eN gInt fs) := de_n (fun t ha => pe_callTy call_int1 hg hm (by decide +kernel) ha (he := he) (hpl := hpl)) opf_int h
theorem d_tostr (hm : X.mg "str" = none) (hg : Gl X "str") (h : DA X W (e :: es) fs) (he : starEach (e :: es) X.env = (false, eval e X.env) :: starEach es X.env := by rfl) (hpl : (backTo pos (starEach es X.env)).any (·.1) = false := by rfl) : DE X W (.Call (.Name "str" p) (e :: es) [] pos) (eN gStr fs) := de_n (fun t ha => pe_callTy call_str_int hg hm (by decide +kernel) ha (he := he) (hpl := hpl)) opf_str h
theorem d_leno {q : List Nat} (hm : X.mg "len" = none) (hg : Gl X "len") (ho : DP X o j q) (he : starEach [o] X.env = (false, eval o X.env) :: starEach [] X.env := by rfl) : DE X W (.Call (.Name "len" p) [o] [] pos) (eLenO j q) := de_leno (fun t ha => pe_callB call_len hg hm (by decide +kernel) (pa_cons ha pa_nil he) (he := he)) ho
theorem d_isi {t : String} (hm : X.mg "isinstance" = none) (hg : Gl X "isinstance") (hp : PE X c (tC (.ty t))) (ht : okTy t = true) (h : DE X W e fa) (he : starEach [e, c] X.env = (false, eval e X.env) :: starEach [c] X.env := by rfl) (he2 : starEach [c] X.env = (false, eval c X.env) :: starEach [] X.env := by rfl) (hpl : (backTo pos (starEach [c] X.env)).any (·.1) = false := by rfl) :
    DE X W (.Call (.Name "isinstance" p) [e, c] [] pos) (e1 (gIsi t) fa) := de_1 (fun ta ha => pe_callB call_isi hg hm (by decide +kernel) (pa_cons ha (pa_cons hp pa_nil he2) he) (he := he) (hpl := hpl)) (opf_isi ht) h
theorem d_range1 {tg : Expr} (hm : X.mg "range" = none) (hg : Gl X "range") (h : DA X W [a] fs) (hs : starEach [a] X.env = [(false, eval a X.env)] := by rfl) : DI X W tg (.Call (.Name "range" p) [a] [] pos) (iR1 fs) :=
  di_range1 (fun t ha => pi_range1 hg hm ha hs) h
theorem d_range2 {tg : Expr} (hm : X.mg "range" = none) (hg : Gl X "range") (h : DA X W [a, b] fs) (hs : starEach [a, b] X.env = [(false, eval a X.env), (false, eval b X.env)] := by rfl) (hs2 : starEach [b] X.env = [(false, eval b X.env)] := by rfl) : DI X W tg (.Call (.Name "range" p) [a, b] [] pos) (iR2 fs) :=
  di_range2 (fun t ha => pi_range2 hg hm ha hs hs2) h
theorem d_enum {elts : List Expr} {kk : Nat} {tpos : Pos} (hm : X.mg "enumerate" = none) (hg : Gl X "enumerate") (h : DA X W [a] fs) (hs : starEach [a] X.env = [(false, eval a X.env)] := by rfl) : DI X W (.Tuple elts kk tpos) (.Call (.Name "enumerate" p) [a] [] pos) (iEnumD fs) :=
  di_enum (fun t ha => pi_enum hg hm ha hs) h
theorem d_zip {elts : List Expr} {kk : Nat} {tpos : Pos} (hm : X.mg "zip" = none) (hg : Gl X "zip") (h : DA X W [a, b] fs) (hs : starEach [a, b] X.env = (false, eval a X.env) :: starEach [b] X.env := by rfl) (hpl : (backTo pos (starEach [b] X.env)).any (·.1) = false := by rfl) : DI X W (.Tuple elts kk tpos) (.Call (.Name "zip" p) [a, b] [] pos) (iZipD fs) :=
  di_zip (fun t ha => pi_zip hg hm ha hs hpl) h
theorem d_rev {tg : Expr} (hm : X.mg "reversed" = none) (hg : Gl X "reversed") (h : DA X W [a] fs) (hs : starEach [a] X.env = [(false, eval a X.env)] := by rfl) : DI X W tg (.Call (.Name "reversed" p) [a] [] pos) (iRevD fs) :=
  di_rev (fun t ha => pi_reversed hg hm ha hs) h
end
section
variable {X : Cx} {W : WX} {F : List Nat} {e o i : Expr} {fe fi : EV} {j : Nat} {q : List Nat} {pos apos cpos spos : Pos}
theorem d_append (ho : DP X o j q) (he : DE X W e fe) (hbase : attributeBase o "append" X.env (eval o X.env) = eval o X.env := by rfl)
    (hfew : ((backTo cpos (starEach (e :: []) X.env)).all (fun x => !x.1) && (backToKw cpos (keywordEach [] X.env)).all (fun x => x.1.isSome)
      && decide ((e :: ([] : List Expr)).length + ([] : List Keyword).length + (if ([] : List Keyword).isEmpty then 0 else 1) < 30)) = true := by rfl)
    (hline : (apos.endLine == cpos.line) = true := by rfl) (hs : starEach (e :: []) X.env = (false, eval e X.env) :: starEach [] X.env := by rfl) (hplain : (backTo cpos (starEach [] X.env)).any (·.1) = false := by rfl)
    (hsw : swapsWith (.Call (.Attribute o "append" apos) [e] [] cpos) none pos.line X.env = pure false := by rfl) :
    DS X W F (.Expr (.Call (.Attribute o "append" apos) [e] [] cpos) pos) (sApp j q fe) :=
  ds_append (fun to te ho he => ps_expr (pe_bm PySem.F.plainAttrs_list PySem.F.slot_list_append PySem.F.type_list_append mt_append ho (pa_cons he pa_nil hs) (hbase := hbase) (hfew := hfew) (hline := hline) (hs := hs) (hplain := hplain)) hsw) ho he
theorem d_store (ho : DP X o j q) (hi : DE X W i fi) (he : DE X W e fe) (hs : swapsWithSole [.Subscript o i spos] e pos.line X.env = pure false := by rfl) (hw : swappedStores [.Subscript o i spos] e X.env = pure none := by rfl)
    (h1 : (assignEach [.Subscript o i spos] X.env).map (·.2) = [assign (.Subscript o i spos) X.env] := by rfl) (ha : ∀ v, assign (.Subscript o i spos) X.env v = (do
      let ov ← holding [v] (eval o X.env)
      let iv ← holding [v, ov] (eval i X.env)
      standAt spos
      holding [v, ov, iv] (setItem ov iv v)
      release [v, ov, iv] []) := by intro _; rfl) :
    DS X W F (.Assign [.Subscript o i spos] e pos) (sStore j q fi fe) :=
  ds_store (fun to ti te ho hi he => ps_asg he (pg_sub ho hi set_list ha) hs hw h1) ho hi he
end
end DL
namespace DL
open PySem PySem.Spec L2
open PyProof.Rows hiding St
theorem CX_no {P : Program} {w : World} {H : Hp} {s s' : Shared} {e : Value} (h : L2.CX P w [] H s (fun _ _ _ => False) e s') : False := by
  obtain ⟨_, _, _, _, _, _, _, _, _, _, _, _, z⟩ := h
  exact z
theorem law_walk {l : PySem.W.OpenLaw} {n k : Nat} {q : Program} {loose : List Str} {XP : (Str → Option Value) → Heap → Prop} {YP : World → Heap → Prop} {d : DefRec} {x : Str} {φ : FV}
    (most : l.most = some n) (small : n ≤ sizeLine) (nodfl : d.params.defaults = []) (room : Room k callerA)
    (told : ∀ (w : World) (mg : Str → Option Value) (fa : Addr) (h : Heap), YP w h → h.Ns mainGlobals mg → mg d.name = some (.ref fa) →
      ∃ (K : PySem.W.Frag) (fd : FuncData), K.In h ∧ (∀ (s : Shared) (u : Value), BindsTo s fd ⟨[u], []⟩ [(x, u)]) ∧
        ∀ base : Heap, K.In base → base.Ns mainGlobals mg → FnOk l.prog w K mg base (L2.CX l.prog w) k fa fd [x] (spD K mg [0] φ))
    (math : ∀ ns : List Int, ns.length ≤ n → ∃ m outs, φ [.scr ns] = .ok m (.bl true) outs) :
    PySem.W.WalkO q loose XP YP l.row.toRowW d [] (fun f vs => PySem.call f vs) := by
  refine Att.attach_call most nodfl (fun w s₀ s₁ mg mb fa o pm cd doc a vs ns G Y ho hd hcd hmg hobj hints hlen hg => ?_)
  obtain ⟨K, fd, kin, bnd, fok⟩ := told w mg fa _ Y G.T.g hmg
  obtain ⟨m, outs, hφ⟩ := math ns hlen
  exact law_call kin G.T.g G.T.b G.T.builtins G.T.nolimit hg hobj hints (Nat.le_trans hlen small) room fok bnd
    (fun H only seq => law_end only seq hφ) (fun H e s' z => CX_no z)
end DL
namespace DL
open PySem PySem.Spec L2
open PyProof.Rows hiding St
def Res.k1 (r : Res) (g : D → Option (Nat × D)) : Res := match r with
  | .ok _ d δ' => toRes δ' (g d)
  | r => r
def Res.k2b (r : Res) (d : D) (g : D → D → Option (Nat × D)) : Res := match r with
  | .ok _ e δ2 => toRes δ2 (g d e)
  | r => r
def Res.k2 (r : Res) (g : D → D → Option (Nat × D)) (fb : EV) : Res := match r with
  | .ok _ d δ1 => (fb δ1).k2b d g
  | r => r
def ARes.kn (r : ARes) (g : List D → Option (Nat × D)) : Res := match r with
  | .ok ds δ' => toRes δ' (g (ds.map (·.2)))
  | .exc x δ' => .exc x δ'
  | .bad => .bad
def ARes.kc (r : ARes) (m : Nat) (d : D) : ARes := match r with
  | .ok ds δ2 => .ok ((m, d) :: ds) δ2
  | r => r
def Res.ka (r : Res) (g : DL.Env → ARes) : ARes := match r with
  | .ok m d δ1 => (g δ1).kc m d
  | .exc x δ' => .exc x δ'
  | .bad => .bad
section
variable {g1 : D → Option (Nat × D)} {g2 : D → D → Option (Nat × D)} {gn : List D → Option (Nat × D)} {f fa fb fc : EV} {fs : DL.Env → ARes} {δ δ' : DL.Env} {m n : Nat} {d e : D} {ps : List (Nat × D)} {x : XD}
theorem e1_k : e1 g1 f δ = (f δ).k1 g1 := by unfold e1 Res.k1; cases f δ <;> rfl
theorem k1_ok : (Res.ok m d δ).k1 g1 = toRes δ (g1 d) := Eq.trans rfl rfl
theorem e2_k : e2 g2 fa fb δ = (fa δ).k2 g2 fb := by
  unfold e2 Res.k2
  cases fa δ <;> rfl
theorem k2_ok : (Res.ok m d δ).k2 g2 fb = (fb δ).k2b d g2 := Eq.trans rfl rfl
theorem k2b_ok : (Res.ok m e δ).k2b d g2 = toRes δ (g2 d e) := Eq.trans rfl rfl
theorem eN_k : eN gn fs δ = (fs δ).kn gn := by unfold eN ARes.kn; cases fs δ <;> rfl
theorem kn_ok : (ARes.ok ps δ).kn gn = toRes δ (gn (ps.map (·.2))) := Eq.trans rfl rfl
theorem aCons_k {g : DL.Env → ARes} : aCons f g δ = (f δ).ka g := by
  unfold aCons Res.ka
  cases f δ <;> rfl
theorem ka_ok {g : DL.Env → ARes} : (Res.ok m d δ).ka g = (g δ).kc m d := Eq.trans rfl rfl
theorem kc_ok : (ARes.ok ps δ).kc m d = .ok ((m, d) :: ps) δ := Eq.trans rfl rfl
theorem aNil_k : aNil δ = .ok [] δ := Eq.trans rfl rfl
theorem eC_k : eC d δ = .ok 0 d δ := Eq.trans rfl rfl
theorem toRes_some {p : Nat × D} : toRes δ (some p) = .ok p.1 p.2 δ := Eq.trans rfl rfl
theorem toRes_none : toRes δ none = .bad := Eq.trans rfl rfl
theorem toRes_pair : toRes δ (some (m, d)) = .ok m d δ := Eq.trans rfl rfl
def look : DL.Env → Nat → Option (Nat × D)
  | [], _ => none
  | x :: _, 0 => x
  | _ :: δ, i + 1 => look δ i
theorem look_eq : ∀ (δ : DL.Env) (i : Nat), look δ i = (δ[i]?).join
  | [], i => by simp [look]
  | x :: δ, 0 => by simp [look]
  | x :: δ, i + 1 => by simpa [look] using look_eq δ i
def put : DL.Env → Nat → Option (Nat × D) → DL.Env
  | [], _, _ => []
  | _ :: δ, 0, y => y :: δ
  | x :: δ, i + 1, y => x :: put δ i y
theorem put_eq : ∀ (δ : DL.Env) (i : Nat) (y : Option (Nat × D)), put δ i y = δ.set i y
  | [], i, y => by simp [put]
  | x :: δ, 0, y => by simp [put]
  | x :: δ, i + 1, y => by simp [put, put_eq δ i y]
def has : DL.Env → Nat → Bool
  | [], _ => false
  | _ :: _, 0 => true
  | _ :: δ, i + 1 => has δ i
theorem has_eq : ∀ (δ : DL.Env) (i : Nat), has δ i = decide (i < δ.length)
  | [], i => by simp [has]
  | x :: δ, 0 => by simp [has]
  | x :: δ, i + 1 => by simp [has, has_eq δ i]
theorem look_0 {x : Option (Nat × D)} {δ : DL.Env} : look (x :: δ) 0 = x := Eq.trans rfl rfl
theorem look_s {x : Option (Nat × D)} {δ : DL.Env} {i : Nat} : look (x :: δ) (i + 1) = look δ i := Eq.trans rfl rfl
theorem put_0 {x y : Option (Nat × D)} {δ : DL.Env} : put (x :: δ) 0 y = y :: δ := Eq.trans rfl rfl
theorem put_s {x y : Option (Nat × D)} {δ : DL.Env} {i : Nat} : put (x :: δ) (i + 1) y = x :: put δ i y := Eq.trans rfl rfl
theorem has_0 {x : Option (Nat × D)} {δ : DL.Env} : has (x :: δ) 0 = true := Eq.trans rfl rfl
theorem has_s {x : Option (Nat × D)} {δ : DL.Env} {i : Nat} : has (x :: δ) (i + 1) = has δ i := Eq.trans rfl rfl
def vOk (o : Option (Nat × D)) (δ : DL.Env) : Res := match o with
  | some (0, d) => .ok 0 d δ
  | _ => .bad
theorem eVar_k {i : Nat} : eVar i δ = vOk (look δ i) δ := by
  unfold eVar vOk
  rw [look_eq]
  rcases h : δ[i]? with _ | (_ | ⟨_ | m, d⟩) <;> rfl
theorem vOk_k : vOk (some (0, d)) δ = .ok 0 d δ := Eq.trans rfl rfl
def mOk (o : Option (Nat × D)) (i : Nat) (δ : DL.Env) : Res := match o with
  | some (m, d) => .ok m d (put δ i none)
  | _ => .bad
theorem eMove_k {i : Nat} : eMove i δ = mOk (look δ i) i δ := by
  unfold eMove mOk
  rw [look_eq]
  rcases h : δ[i]? with _ | (_ | ⟨m, d⟩)
  · rfl
  · rfl
  · simp only [put_eq]; rfl
theorem mOk_k {i : Nat} : mOk (some (m, d)) i δ = .ok m d (put δ i none) := Eq.trans rfl rfl
def Res.kt (r : Res) : TRes := match r with
  | .ok _ (.bl b) δ' => .ok b δ'
  | .exc x δ' => .exc x δ'
  | _ => .bad
theorem tT_k : tT f δ = (f δ).kt := by unfold tT Res.kt; rfl
theorem kt_ok {b : Bool} : (Res.ok m (.bl b) δ).kt = .ok b δ := Eq.trans rfl rfl
def TRes.and (r : TRes) (g : DL.Env → TRes) : TRes := match r with
  | .ok true δ' => g δ'
  | r => r
def TRes.or (r : TRes) (g : DL.Env → TRes) : TRes := match r with
  | .ok false δ' => g δ'
  | r => r
def TRes.not (r : TRes) : TRes := match r with
  | .ok b δ' => .ok (!b) δ'
  | r => r
section
variable {p q : DL.Env → TRes} {b : Bool}
theorem tAnd_k : tAndD p q δ = (p δ).and q := Eq.trans rfl rfl
theorem tOr_k : tOrD p q δ = (p δ).or q := Eq.trans rfl rfl
theorem tNot_k : tNotD p δ = (p δ).not := Eq.trans rfl rfl
theorem and_t : (TRes.ok true δ).and q = q δ := Eq.trans rfl rfl
theorem and_f : (TRes.ok false δ).and q = .ok false δ := Eq.trans rfl rfl
theorem or_t : (TRes.ok true δ).or q = .ok true δ := Eq.trans rfl rfl
theorem or_f : (TRes.ok false δ).or q = q δ := Eq.trans rfl rfl
theorem not_k : (TRes.ok b δ).not = .ok (!b) δ := Eq.trans rfl rfl
def TRes.sel (r : TRes) (f g : EV) : Res := match r with
  | .ok b δ' => if b then f δ' else g δ'
  | .exc x δ' => .exc x δ'
  | .bad => .bad
theorem eIf_k : eIf p fa fb δ = (p δ).sel fa fb := by unfold eIf TRes.sel; rfl
theorem sel_t : (TRes.ok true δ).sel fa fb = fa δ := Eq.trans rfl rfl
theorem sel_f : (TRes.ok false δ).sel fa fb = fb δ := Eq.trans rfl rfl
end
def Res.kand (r : Res) (g : EV) : Res := match r with
  | .ok _ (.bl true) δ' => g δ'
  | .ok _ (.bl false) δ' => .ok 0 (.bl false) δ'
  | .exc x δ' => .exc x δ'
  | _ => .bad
def Res.kor (r : Res) (g : EV) : Res := match r with
  | .ok _ (.bl true) δ' => .ok 0 (.bl true) δ'
  | .ok _ (.bl false) δ' => g δ'
  | .exc x δ' => .exc x δ'
  | _ => .bad
def Res.knot (r : Res) : Res := match r with
  | .ok _ (.bl b) δ' => .ok 0 (.bl (!b)) δ'
  | .exc x δ' => .exc x δ'
  | _ => .bad
theorem eAnd_k : eAnd fa fb δ = (fa δ).kand fb := Eq.trans rfl rfl
theorem eOr_k : eOr fa fb δ = (fa δ).kor fb := Eq.trans rfl rfl
theorem eNot_k : eNot fa δ = (fa δ).knot := Eq.trans rfl rfl
theorem kand_t : (Res.ok m (.bl true) δ).kand fb = fb δ := Eq.trans rfl rfl
theorem kand_f : (Res.ok m (.bl false) δ).kand fb = .ok 0 (.bl false) δ := Eq.trans rfl rfl
theorem kor_t : (Res.ok m (.bl true) δ).kor fb = .ok 0 (.bl true) δ := Eq.trans rfl rfl
theorem kor_f : (Res.ok m (.bl false) δ).kor fb = fb δ := Eq.trans rfl rfl
theorem knot_k {b : Bool} : (Res.ok m (.bl b) δ).knot = .ok 0 (.bl (!b)) δ := Eq.trans rfl rfl
def Res.kch3 (r : Res) (y : D) (g' : D → D → Option (Nat × D)) : Res := match r with
  | .ok _ z δ3 => toRes δ3 (g' y z)
  | r => r
def kch2 (o : Option (Nat × D)) (y : D) (δ2 : DL.Env) (g' : D → D → Option (Nat × D)) (fc : EV) : Res := match o with
  | some (_, .bl true) => (fc δ2).kch3 y g'
  | some (_, .bl false) => .ok 0 (.bl false) δ2
  | _ => .bad
def Res.kch1 (r : Res) (x : D) (g g' : D → D → Option (Nat × D)) (fc : EV) : Res := match r with
  | .ok _ y δ2 => kch2 (g x y) y δ2 g' fc
  | r => r
def Res.kch (r : Res) (g g' : D → D → Option (Nat × D)) (fb fc : EV) : Res := match r with
  | .ok _ x δ1 => (fb δ1).kch1 x g g' fc
  | r => r
section
variable {g g' : D → D → Option (Nat × D)} {o : Option (Nat × D)}
theorem eChain_k : eChain g g' fa fb fc δ = (fa δ).kch g g' fb fc := by
  unfold eChain Res.kch
  cases fa δ <;> rfl
theorem kch_ok : (Res.ok m d δ).kch g g' fb fc = (fb δ).kch1 d g g' fc := Eq.trans rfl rfl
theorem kch1_ok : (Res.ok m e δ).kch1 d g g' fc = kch2 (g d e) e δ g' fc := Eq.trans rfl rfl
theorem kch2_t : kch2 (some (m, .bl true)) e δ g' fc = (fc δ).kch3 e g' := Eq.trans rfl rfl
theorem kch2_f : kch2 (some (m, .bl false)) e δ g' fc = .ok 0 (.bl false) δ := Eq.trans rfl rfl
theorem kch3_ok : (Res.ok m d δ).kch3 e g' = toRes δ (g' e d) := Eq.trans rfl rfl
end
def ARes.ktup (r : ARes) : Res := match r with
  | .ok ps δ' => if ps.length ≤ sizeLine then .ok (dispM ps) (.tup (ps.map (·.2))) δ' else .bad
  | .exc x δ' => .exc x δ'
  | .bad => .bad
def ARes.klst (r : ARes) : Res := match r with
  | .ok ps δ' => if ps.length ≤ sizeLine then .ok (dispM ps + 1) (.lst (ps.map (·.2))) δ' else .bad
  | .exc x δ' => .exc x δ'
  | .bad => .bad
def fewP : List (Nat × D) → Nat → Bool
  | [], _ => true
  | _ :: _, 0 => false
  | _ :: r, n + 1 => fewP r n
theorem fewP_le : ∀ (ps : List (Nat × D)) (n : Nat), fewP ps n = true → ps.length ≤ n
  | [], _, _ => Nat.zero_le _
  | _ :: _, 0, h => by cases h
  | p :: r, n + 1, h => by simp only [List.length_cons]; have := fewP_le r n h; omega
theorem eTup_k : eTup fs δ = (fs δ).ktup := Eq.trans rfl rfl
theorem eLst_k : eLst fs δ = (fs δ).klst := Eq.trans rfl rfl
theorem ktup_ok (h : fewP ps 100 = true) : (ARes.ok ps δ).ktup = .ok (dispM ps) (.tup (ps.map (·.2))) δ := by
  have := fewP_le ps 100 h
  exact if_pos (Nat.le_trans this (by decide))
theorem klst_ok (h : fewP ps 100 = true) : (ARes.ok ps δ).klst = .ok (dispM ps + 1) (.lst (ps.map (·.2))) δ := by
  have := fewP_le ps 100 h
  exact if_pos (Nat.le_trans this (by decide))
def ORes.ksl3 (r : ORes) (d : D) (lo : Option Int) : Res := match r with
  | .ok hi δ3 => toRes δ3 (gSl d lo hi)
  | .exc x δ' => .exc x δ'
  | .bad => .bad
def ORes.ksl2 (r : ORes) (d : D) (fh : DL.Env → ORes) : Res := match r with
  | .ok lo δ2 => (fh δ2).ksl3 d lo
  | .exc x δ' => .exc x δ'
  | .bad => .bad
def Res.ksl (r : Res) (fl fh : DL.Env → ORes) : Res := match r with
  | .ok _ d δ1 => (fl δ1).ksl2 d fh
  | r => r
def Res.ko (r : Res) : ORes := match r with
  | .ok _ (.int i) δ' => .ok (some i) δ'
  | .exc x δ' => .exc x δ'
  | _ => .bad
section
variable {fl fh : DL.Env → ORes} {o lo hi : Option Int}
theorem eSl_k : eSl f fl fh δ = (f δ).ksl fl fh := by
  unfold eSl Res.ksl
  cases f δ <;> rfl
theorem ksl_ok : (Res.ok m d δ).ksl fl fh = (fl δ).ksl2 d fh := Eq.trans rfl rfl
theorem ksl2_ok : (ORes.ok lo δ).ksl2 d fh = (fh δ).ksl3 d lo := Eq.trans rfl rfl
theorem ksl3_ok : (ORes.ok hi δ).ksl3 d lo = toRes δ (gSl d lo hi) := Eq.trans rfl rfl
theorem oNone_k : oNone δ = .ok none δ := Eq.trans rfl rfl
theorem oSome_k : oSome f δ = (f δ).ko := Eq.trans rfl rfl
theorem ko_ok {i : Int} : (Res.ok m (.int i) δ).ko = .ok (some i) δ := Eq.trans rfl rfl
end
def ixO2 (o : Option D) (δ1 : DL.Env) (k : Nat) : Res := match o with
  | some d => if d.atom || k == 0 then .ok 0 d δ1 else .bad
  | none => .bad
def ixO1 (o : Option D) (i : Int) (δ1 : DL.Env) (k : Nat) : Res := match o with
  | some (.lst ds) => ixO2 (atI ds i) δ1 k
  | _ => .bad
def ixO0 (o : Option (Nat × D)) (p : List Nat) (i : Int) (δ1 : DL.Env) : Res := match o with
  | some (k + 1, d1) => ixO1 (d1.at p) i δ1 k
  | _ => .bad
def Res.kixo (r : Res) (j : Nat) (p : List Nat) : Res := match r with
  | .ok _ (.int i) δ1 => ixO0 (look δ1 j) p i δ1
  | .exc x δ' => .exc x δ'
  | _ => .bad
def isLst : Option D → Bool
  | some (.lst _) => true
  | _ => false
def ownL (o : Option (Nat × D)) (p : List Nat) : Bool := match o with
  | some (_ + 1, d) => isLst (d.at p)
  | _ => false
theorem eIxO_k {j : Nat} {p : List Nat} (h : ownL (look δ j) p = true) : eIxO j p f δ = (f δ).kixo j p := by
  unfold eIxO
  rw [look_eq] at h
  rcases h1 : δ[j]? with _ | (_ | ⟨_ | k, d⟩)
  · rw [h1] at h; cases h
  · rw [h1] at h; cases h
  · rw [h1] at h; cases h
  · rw [h1] at h
    have h : isLst (d.at p) = true := h
    simp only
    rcases h2 : d.at p with _ | d'
    · rw [h2] at h; cases h
    · cases d' <;> first | (rw [h2] at h; cases h; done) | skip
      simp only [Res.kixo]
      cases f δ with
      | bad => rfl
      | exc x δ' => rfl
      | ok m e δ1 =>
        cases e <;> try rfl
        simp only [ixO0, look_eq]
        rcases h3 : δ1[j]? with _ | (_ | ⟨_ | k', d1⟩) <;> rfl
theorem kixo_ok {j : Nat} {p : List Nat} {i : Int} : (Res.ok m (.int i) δ).kixo j p = ixO0 (look δ j) p i δ := Eq.trans rfl rfl
theorem ixO0_k {k : Nat} {p : List Nat} {i : Int} : ixO0 (some (k + 1, d)) p i δ = ixO1 (d.at p) i δ k := Eq.trans rfl rfl
theorem ixO1_k {k : Nat} {ds : List D} {i : Int} : ixO1 (some (.lst ds)) i δ k = ixO2 (atI ds i) δ k := Eq.trans rfl rfl
theorem ixO2_k {k : Nat} : ixO2 (some d) δ k = if d.atom || k == 0 then .ok 0 d δ else .bad := Eq.trans rfl rfl
end
end DL
namespace DL
open PySem PySem.Spec L2
open PyProof.Rows hiding St
def SRes.thn (r : SRes) (g : SV) : SRes := match r with
  | .nx δ' => g δ'
  | r => r
def TRes.selS (r : TRes) (f g : SV) : SRes := match r with
  | .ok b δ' => if b then f δ' else g δ'
  | .exc x δ' => .exc x δ'
  | .bad => .bad
def Res.kret (r : Res) : SRes := match r with
  | .ok m d δ' => .ret m d δ'
  | .exc x δ' => .exc x δ'
  | .bad => .bad
def Res.kdrop (r : Res) : SRes := match r with
  | .ok _ _ δ' => .nx δ'
  | .exc x δ' => .exc x δ'
  | .bad => .bad
def nxO (o : Option DL.Env) : SRes := match o with
  | some δ => .nx δ
  | none => .bad
def Res.kasg (r : Res) (t : Tgt) : SRes := match r with
  | .ok m d δ1 => nxO (t.set m d δ1)
  | .exc x δ' => .exc x δ'
  | .bad => .bad
section
variable {f g : SV} {fe fa fb fi : EV} {tt : DL.Env → TRes} {δ δ1 δ2 : DL.Env} {m n : Nat} {d e : D} {x : XD} {z : Bool} {i j : Nat} {ps : List (Nat × D)}
theorem sSeq_k : sSeq f g δ = (f δ).thn g := Eq.trans rfl rfl
theorem thn_nx : (SRes.nx δ).thn g = g δ := Eq.trans rfl rfl
theorem thn_ret : (SRes.ret m d δ).thn g = .ret m d δ := Eq.trans rfl rfl
theorem thn_brk : (SRes.brk δ).thn g = .brk δ := Eq.trans rfl rfl
theorem thn_cnt : (SRes.cnt δ).thn g = .cnt δ := Eq.trans rfl rfl
theorem thn_exc : (SRes.exc x δ).thn g = .exc x δ := Eq.trans rfl rfl
theorem sNext_k : sNext δ = .nx δ := Eq.trans rfl rfl
theorem sBrk_k : sBrk δ = .brk δ := Eq.trans rfl rfl
theorem sCnt_k : sCnt δ = .cnt δ := Eq.trans rfl rfl
theorem sRetN_k : sRetN δ = .ret 0 .non δ := Eq.trans rfl rfl
theorem sIf_k : sIf tt f g δ = (tt δ).selS f g := Eq.trans rfl rfl
theorem selS_t : (TRes.ok true δ).selS f g = f δ := Eq.trans rfl rfl
theorem selS_f : (TRes.ok false δ).selS f g = g δ := Eq.trans rfl rfl
theorem selS_b {b : Bool} : (TRes.ok b δ).selS f g = if b then f δ else g δ := Eq.trans rfl rfl
theorem sRet_k : sRet fe δ = (fe δ).kret := Eq.trans rfl rfl
theorem kret_ok : (Res.ok m d δ).kret = .ret m d δ := Eq.trans rfl rfl
theorem sExpr_k : sExpr fe δ = (fe δ).kdrop := Eq.trans rfl rfl
theorem kdrop_ok : (Res.ok m d δ).kdrop = .nx δ := Eq.trans rfl rfl
theorem sAsg_k {t : Tgt} : sAsg t fe δ = (fe δ).kasg t := by unfold sAsg Res.kasg; cases fe δ <;> rfl
theorem kasg_ok {t : Tgt} : (Res.ok m d δ).kasg t = nxO (t.set m d δ) := Eq.trans rfl rfl
theorem nxO_some : nxO (some δ) = .nx δ := Eq.trans rfl rfl
def oneO (b : Bool) (δ : DL.Env) : Option DL.Env := if b then some δ else none
theorem oneO_t : oneO true δ = some δ := Eq.trans rfl rfl
theorem setOne_k : setOne (z, i) m d δ = oneO (has δ i) (put δ i (some (md z m, d))) := by
  unfold setOne oneO
  rw [has_eq, put_eq]
  by_cases h : i < δ.length <;> simp [h]
theorem set_nm {s : Slot1} : (Tgt.nm s).set m d δ = setOne s m d δ := Eq.trans rfl rfl
theorem set_tup {ss : List Slot1} {ds : List D} : (Tgt.tp ss).set m (.tup ds) δ = setMany ss m ds δ := Eq.trans rfl rfl
theorem set_lst0 {ss : List Slot1} {ds : List D} : (Tgt.tp ss).set 0 (.lst ds) δ = setMany ss 0 ds δ := Eq.trans rfl rfl
theorem set_lstS {ss : List Slot1} {ds : List D} : (Tgt.tp ss).set (m + 1) (.lst ds) δ = setMany ss m ds δ := Eq.trans rfl rfl
theorem set_lst1 {ss : List Slot1} {ds : List D} : (Tgt.tp ss).set 1 (.lst ds) δ = setMany ss 0 ds δ := Eq.trans rfl rfl
def manyO (o : Option DL.Env) (ss : List Slot1) (m : Nat) (ds : List D) : Option DL.Env := match o with
  | some δ => setMany ss m ds δ
  | none => none
theorem many_nil : setMany [] m [] δ = some δ := Eq.trans rfl rfl
theorem many_cons {s : Slot1} {ss : List Slot1} {ds : List D} : setMany (s :: ss) m (d :: ds) δ = manyO (setOne s m d δ) ss m ds := Eq.trans rfl rfl
theorem manyO_some {ss : List Slot1} {ds : List D} : manyO (some δ) ss m ds = setMany ss m ds δ := Eq.trans rfl rfl
theorem md_t : md true m = 0 := Eq.trans rfl rfl
theorem md_f : md false m = m := Eq.trans rfl rfl
def parO (o : Option DL.Env) (s2 : Slot1) (n : Nat) (e : D) : SRes := match o with
  | some δ3 => nxO (setOne s2 n e δ3)
  | none => .bad
def Res.kpar2 (r : Res) (s1 s2 : Slot1) (m : Nat) (d : D) : SRes := match r with
  | .ok n e δ2 => parO (setOne s1 m d δ2) s2 n e
  | .exc x δ' => .exc x δ'
  | .bad => .bad
def Res.kpar (r : Res) (s1 s2 : Slot1) (fb : EV) : SRes := match r with
  | .ok m d δ1 => (fb δ1).kpar2 s1 s2 m d
  | .exc x δ' => .exc x δ'
  | .bad => .bad
theorem sPar_k {s1 s2 : Slot1} : sPar s1 s2 fa fb δ = (fa δ).kpar s1 s2 fb := by
  unfold sPar Res.kpar
  cases fa δ <;> rfl
theorem kpar_ok {s1 s2 : Slot1} : (Res.ok m d δ).kpar s1 s2 fb = (fb δ).kpar2 s1 s2 m d := Eq.trans rfl rfl
theorem kpar2_ok {s1 s2 : Slot1} : (Res.ok n e δ).kpar2 s1 s2 m d = parO (setOne s1 m d δ) s2 n e := Eq.trans rfl rfl
theorem parO_some {s2 : Slot1} : parO (some δ) s2 n e = nxO (setOne s2 n e δ) := Eq.trans rfl rfl
def appO1 (o : Option D) (δ1 : DL.Env) (j k : Nat) (p : List Nat) (d1 : D) (m : Nat) (d : D) : SRes := match o with
  | some (.lst ds) => if ds.length < sizeLine ∧ joinM k m d = true then .nx (put δ1 j (some (k + 1, d1.put p (.lst (ds ++ [d]))))) else .bad
  | _ => .bad
def appO (o : Option (Nat × D)) (j : Nat) (p : List Nat) (m : Nat) (d : D) (δ1 : DL.Env) : SRes := match o with
  | some (k + 1, d1) => appO1 (d1.at p) δ1 j k p d1 m d
  | _ => .bad
def Res.kapp (r : Res) (j : Nat) (p : List Nat) : SRes := match r with
  | .ok m d δ1 => appO (look δ1 j) j p m d δ1
  | .exc x δ' => .exc x δ'
  | .bad => .bad
theorem sApp_k {p : List Nat} (h : ownL (look δ j) p = true) : sApp j p fe δ = (fe δ).kapp j p := by
  unfold sApp
  rw [look_eq] at h
  rcases h1 : δ[j]? with _ | (_ | ⟨_ | k, d⟩)
  · rw [h1] at h; cases h
  · rw [h1] at h; cases h
  · rw [h1] at h; cases h
  · rw [h1] at h
    have h : isLst (d.at p) = true := h
    simp only
    rcases h2 : d.at p with _ | d'
    · rw [h2] at h; cases h
    · cases d' <;> first | (rw [h2] at h; cases h; done) | skip
      simp only [Res.kapp]
      cases fe δ with
      | bad => rfl
      | exc x δ' => rfl
      | ok m e δ1 =>
        simp only [appO, look_eq]
        rcases h3 : δ1[j]? with _ | (_ | ⟨_ | k', d1⟩) <;> try rfl
        all_goals simp only [Option.join_some, appO1, put_eq]
        all_goals
          rcases h4 : d1.at p with _ | d2
          · rfl
          · cases d2 <;> rfl
theorem kapp_ok {p : List Nat} : (Res.ok m d δ).kapp j p = appO (look δ j) j p m d δ := Eq.trans rfl rfl
theorem appO_k {k : Nat} {p : List Nat} : appO (some (k + 1, e)) j p m d δ = appO1 (e.at p) δ j k p e m d := Eq.trans rfl rfl
theorem appO1_k {k : Nat} {p : List Nat} {ds : List D} (h : ds.length < sizeLine) (h' : joinM k m d = true) : appO1 (some (.lst ds)) δ j k p e m d = .nx (put δ j (some (k + 1, e.put p (.lst (ds ++ [d]))))) := if_pos ⟨h, h'⟩
def stoO2 (o : Option Nat) (ds : List D) (δ2 : DL.Env) (j k : Nat) (p : List Nat) (d1 : D) (m : Nat) (d : D) : SRes := match o with
  | some n => if joinM k m d = true then .nx (put δ2 j (some (k + 1, d1.put p (.lst (ds.set n d))))) else .bad
  | none => .bad
def stoO1 (o : Option D) (i : Int) (δ2 : DL.Env) (j k : Nat) (p : List Nat) (d1 : D) (m : Nat) (d : D) : SRes := match o with
  | some (.lst ds) => stoO2 (ixN ds.length i) ds δ2 j k p d1 m d
  | _ => .bad
def stoO (o : Option (Nat × D)) (i : Int) (j : Nat) (p : List Nat) (m : Nat) (d : D) (δ2 : DL.Env) : SRes := match o with
  | some (k + 1, d1) => stoO1 (d1.at p) i δ2 j k p d1 m d
  | _ => .bad
def Res.ksto2 (r : Res) (j : Nat) (p : List Nat) (m : Nat) (d : D) : SRes := match r with
  | .ok _ (.int i) δ2 => stoO (look δ2 j) i j p m d δ2
  | .exc x δ' => .exc x δ'
  | _ => .bad
def Res.ksto (r : Res) (j : Nat) (p : List Nat) (fi : EV) : SRes := match r with
  | .ok m d δ1 => cond (ownL (look δ1 j) p) ((fi δ1).ksto2 j p m d) .bad
  | .exc x δ' => .exc x δ'
  | .bad => .bad
theorem sStore_k {p : List Nat} : sStore j p fi fe δ = (fe δ).ksto j p fi := by
  unfold sStore
  cases fe δ with
  | bad => rfl
  | exc x δ' => rfl
  | ok m d δ1 =>
    simp only [Res.ksto, look_eq]
    rcases h1 : δ1[j]? with _ | (_ | ⟨_ | k, d0⟩) <;> try rfl
    simp only [Option.join_some, ownL]
    rcases h2 : d0.at p with _ | d'
    · rfl
    · cases d' <;> try rfl
      simp only [isLst, cond_true]
      cases fi δ1 with
      | bad => rfl
      | exc x δ' => rfl
      | ok mi ei δ2 =>
        cases ei <;> try rfl
        simp only [Res.ksto2, look_eq]
        rcases h3 : δ2[j]? with _ | (_ | ⟨_ | k', d1⟩) <;> try rfl
        simp only [Option.join_some, stoO, stoO1]
        rcases h4 : d1.at p with _ | d2
        · rfl
        · cases d2 <;> try rfl
          all_goals simp only [stoO2, put_eq]
          all_goals
            rename_i ii ds
            cases ixN ds.length ii <;> rfl
theorem ksto_ok {p : List Nat} (h : ownL (look δ j) p = true) : (Res.ok m d δ).ksto j p fi = (fi δ).ksto2 j p m d := by
  show cond (ownL (look δ j) p) _ _ = _
  rw [h]; rfl
theorem ksto2_ok {p : List Nat} {k : Int} : (Res.ok n (.int k) δ).ksto2 j p m d = stoO (look δ j) k j p m d δ := Eq.trans rfl rfl
theorem stoO_k {k : Nat} {p : List Nat} {q : Int} : stoO (some (k + 1, e)) q j p m d δ = stoO1 (e.at p) q δ j k p e m d := Eq.trans rfl rfl
theorem stoO1_k {k : Nat} {p : List Nat} {q : Int} {ds : List D} : stoO1 (some (.lst ds)) q δ j k p e m d = stoO2 (ixN ds.length q) ds δ j k p e m d := Eq.trans rfl rfl
theorem stoO2_k {k c : Nat} {p : List Nat} {ds : List D} (h : joinM k m d = true) : stoO2 (some c) ds δ j k p e m d = .nx (put δ j (some (k + 1, e.put p (.lst (ds.set c d))))) := if_pos h
def IRes.kfor (r : IRes) (t : Tgt) (body : SV) : SRes := match r with
  | .ok ds δ' => forL t body ds δ'
  | .exc x δ' => .exc x δ'
  | .bad => .bad
variable {t : Tgt} {it : DL.Env → IRes} {body : SV} {ds es : List D}
theorem sFor_k : sFor t it body δ = (it δ).kfor t body := Eq.trans rfl rfl
theorem kfor_ok : (IRes.ok ds δ).kfor t body = forL t body ds δ := Eq.trans rfl rfl
def SRes.kloop (r : SRes) (g : DL.Env → SRes) : SRes := match r with
  | .nx δ2 => g δ2
  | .cnt δ2 => g δ2
  | .brk δ2 => .nx δ2
  | .ret m d δ2 => .ret m d δ2
  | .exc x δ2 => .exc x δ2
  | .bad => .bad
def forO (o : Option DL.Env) (t : Tgt) (body : SV) (ds : List D) : SRes := match o with
  | some δ1 => (body δ1).kloop (forL t body ds)
  | none => .bad
theorem forL_nil : forL t body [] δ = .nx δ := Eq.trans rfl rfl
theorem forL_cons : forL t body (d :: ds) δ = forO (t.set 0 d δ) t body ds := by
  show forL t body (d :: ds) δ = _
  rw [forL.eq_def]
  unfold forO
  simp only
  cases t.set 0 d δ with
  | none => rfl
  | some δ1 =>
    simp only
    unfold SRes.kloop
    cases body δ1 <;> rfl
theorem forO_some : forO (some δ) t body ds = (body δ).kloop (forL t body ds) := Eq.trans rfl rfl
variable {gl : DL.Env → SRes}
theorem kloop_nx : (SRes.nx δ).kloop gl = gl δ := Eq.trans rfl rfl
theorem kloop_cnt : (SRes.cnt δ).kloop gl = gl δ := Eq.trans rfl rfl
theorem kloop_brk : (SRes.brk δ).kloop gl = .nx δ := Eq.trans rfl rfl
theorem kloop_ret : (SRes.ret m d δ).kloop gl = .ret m d δ := Eq.trans rfl rfl
theorem kloop_exc : (SRes.exc x δ).kloop gl = .exc x δ := Eq.trans rfl rfl
def Res.kiseq (r : Res) : IRes := match r with
  | .ok _ (.lst ds) δ' => .ok ds δ'
  | .ok _ (.tup ds) δ' => .ok ds δ'
  | .exc x δ' => .exc x δ'
  | _ => .bad
theorem iSeq_k : iSeq fe δ = (fe δ).kiseq := Eq.trans rfl rfl
theorem kiseq_l : (Res.ok m (.lst ds) δ).kiseq = .ok ds δ := Eq.trans rfl rfl
theorem kiseq_t : (Res.ok m (.tup ds) δ).kiseq = .ok ds δ := Eq.trans rfl rfl
variable {fs : DL.Env → ARes}
def ARes.kr1 (r : ARes) : IRes := match r with
  | .ok [(_, .int j)] δ' => if inW j then .ok (rangeD 0 j.toNat) δ' else .bad
  | .exc x δ' => .exc x δ'
  | _ => .bad
def ARes.kr2 (r : ARes) : IRes := match r with
  | .ok [(_, .int i), (_, .int j)] δ' => if inW i && inW j then .ok (rangeD i (j - i).toNat) δ' else .bad
  | .exc x δ' => .exc x δ'
  | _ => .bad
theorem iR1_k : iR1 fs δ = (fs δ).kr1 := Eq.trans rfl rfl
theorem iR2_k : iR2 fs δ = (fs δ).kr2 := Eq.trans rfl rfl
theorem inW_i {k : Int} (h : -(2 ^ 62) ≤ k) (h' : k < 2 ^ 62) : inW k = true := by
  unfold inW; simp only [Bool.and_eq_true, decide_eq_true_eq]; exact ⟨h, h'⟩
theorem kr1_ok {k : Int} (h : inW k = true) : (ARes.ok [(m, .int k)] δ).kr1 = .ok (rangeD 0 k.toNat) δ := if_pos h
theorem kr2_ok {k q : Int} (h : inW k = true) (h' : inW q = true) : (ARes.ok [(m, .int k), (n, .int q)] δ).kr2 = .ok (rangeD k (q - k).toNat) δ := if_pos (by rw [h, h']; rfl)
def ARes.ken (r : ARes) : IRes := match r with
  | .ok [(_, .lst ds)] δ' => .ok (enumD 0 ds) δ'
  | .exc x δ' => .exc x δ'
  | _ => .bad
def ARes.kzip (r : ARes) : IRes := match r with
  | .ok [(_, .lst ds), (_, .lst es)] δ' => .ok (zipD ds es) δ'
  | .exc x δ' => .exc x δ'
  | _ => .bad
def ARes.krev (r : ARes) : IRes := match r with
  | .ok [(_, .lst ds)] δ' => .ok ds.reverse δ'
  | .exc x δ' => .exc x δ'
  | _ => .bad
theorem iEnum_k : iEnumD fs δ = (fs δ).ken := Eq.trans rfl rfl
theorem iZip_k : iZipD fs δ = (fs δ).kzip := Eq.trans rfl rfl
theorem iRev_k : iRevD fs δ = (fs δ).krev := Eq.trans rfl rfl
theorem ken_ok : (ARes.ok [(m, .lst ds)] δ).ken = .ok (enumD 0 ds) δ := Eq.trans rfl rfl
theorem kzip_ok : (ARes.ok [(m, .lst ds), (n, .lst es)] δ).kzip = .ok (zipD ds es) δ := Eq.trans rfl rfl
theorem krev_ok : (ARes.ok [(m, .lst ds)] δ).krev = .ok ds.reverse δ := Eq.trans rfl rfl
def lenIs : DL.Env → Nat → Bool
  | [], 0 => true
  | _ :: δ, n + 1 => lenIs δ n
  | _, _ => false
theorem lenIs_eq : ∀ {δ : DL.Env} {n : Nat}, lenIs δ n = true → δ.length = n
  | [], 0, _ => rfl
  | [], n + 1, h => by cases h
  | _ :: _, 0, h => by cases h
  | x :: δ, n + 1, h => by simp [lenIs_eq (δ := δ) (n := n) h]
def cmpO (o : Option (List D × DL.Env)) : Res := match o with
  | some (acc, δ2) => .ok 1 (.lst acc) δ2
  | none => .bad
def IRes.kcomp (r : IRes) (n : Nat) (t : Tgt) (vs : List Nat) (cond : DL.Env → TRes) (elt : EV) : Res := match r with
  | .ok ds δ1 => if lenIs δ1 n then cmpO (compL t vs cond elt ds [] (wipeD δ1 vs)) else .bad
  | .exc x δ' => .exc x δ'
  | .bad => .bad
variable {vs : List Nat} {cond : DL.Env → TRes} {elt : EV}
theorem eq_lenIs : ∀ {δ : DL.Env} {n : Nat}, δ.length = n → lenIs δ n = true
  | [], 0, _ => rfl
  | [], n + 1, h => by simp at h
  | x :: δ, 0, h => by simp at h
  | x :: δ, n + 1, h => eq_lenIs (δ := δ) (n := n) (by simpa using h)
theorem eCompN_k (h : lenIs δ n = true) : eCompN n t vs it cond elt δ = (it δ).kcomp n t vs cond elt := by
  unfold eCompN
  rw [if_pos (lenIs_eq h)]
  cases it δ with
  | bad => rfl
  | exc x δ' => rfl
  | ok ds δ1 =>
    simp only [IRes.kcomp]
    by_cases z : δ1.length = n
    · rw [if_pos z, if_pos (eq_lenIs z)]
      unfold eComp
      simp only
      rcases compL t vs cond elt ds [] (wipeD δ1 vs) with _ | ⟨acc, δ2⟩ <;> rfl
    · rw [if_neg z]
      by_cases y : lenIs δ1 n = true
      · exact absurd (lenIs_eq y) z
      · rw [if_neg y]
theorem kcomp_ok (h : lenIs δ n = true) : (IRes.ok ds δ).kcomp n t vs cond elt = cmpO (compL t vs cond elt ds [] (wipeD δ vs)) := if_pos h
theorem wipe_nil : wipeD δ [] = δ := Eq.trans rfl rfl
theorem wipe_cons {v : Nat} : wipeD δ (v :: vs) = put (wipeD δ vs) v none := by rw [put_eq]; rfl
theorem cmpO_some {acc : List D} : cmpO (some (acc, δ)) = .ok 1 (.lst acc) δ := Eq.trans rfl rfl
theorem tYes_k : tYesD δ = .ok true δ := Eq.trans rfl rfl
variable {pm : List Nat} {ks : List (Option Nat)} {φ : FV} {outs : List D}
def backO (o : Option DL.Env) (m : Nat) (d : D) : Res := match o with
  | some δ2 => .ok m d δ2
  | none => .bad
def backX (o : Option DL.Env) (x : XD) : Res := match o with
  | some δ2 => .exc x δ2
  | none => .bad
def FRes.kb (r : FRes) (pm : List Nat) (ks : List (Option Nat)) (δ : DL.Env) : Res := match r with
  | .ok m d outs => backO (backD pm ks outs (noneD ks δ)) m d
  | .exc x outs => backX (backD pm ks outs (noneD ks δ)) x
  | .bad => .bad
def bindO (o : Option (List D)) (pm : List Nat) (ks : List (Option Nat)) (φ : FV) (δ : DL.Env) : Res := match o with
  | some ds => (φ ds).kb pm ks δ
  | none => .bad
def ARes.kcall (r : ARes) (pm : List Nat) (ks : List (Option Nat)) (φ : FV) : Res := match r with
  | .ok ps δ1 => bindO (bindD pm ks ps δ1) pm ks φ δ1
  | .exc x δ' => .exc x δ'
  | .bad => .bad
theorem eCall_k : eCall pm ks φ fs δ = (fs δ).kcall pm ks φ := by
  unfold eCall ARes.kcall
  cases fs δ with
  | bad => rfl
  | exc x δ' => rfl
  | ok ps δ1 =>
    simp only [callD, bindO]
    rcases bindD pm ks ps δ1 with _ | ds
    · rfl
    · simp only [FRes.kb]
      cases φ ds with
      | bad => rfl
      | ok m d o => simp only [backO]; all_goals (cases backD pm ks o (noneD ks δ1) <;> rfl)
      | exc x o => simp only [backX]; all_goals (cases backD pm ks o (noneD ks δ1) <;> rfl)
theorem kcall_ok : (ARes.ok ps δ).kcall pm ks φ = bindO (bindD pm ks ps δ) pm ks φ δ := Eq.trans rfl rfl
theorem bindO_some : bindO (some ds) pm ks φ δ = (φ ds).kb pm ks δ := Eq.trans rfl rfl
theorem kb_ok : (FRes.ok m d outs).kb pm ks δ = backO (backD pm ks outs (noneD ks δ)) m d := Eq.trans rfl rfl
theorem kb_exc : (FRes.exc x outs).kb pm ks δ = backX (backD pm ks outs (noneD ks δ)) x := Eq.trans rfl rfl
theorem backO_some : backO (some δ) m d = .ok m d δ := Eq.trans rfl rfl
theorem backX_some : backX (some δ) x = .exc x δ := Eq.trans rfl rfl
def lendO (o : Option (Nat × D)) (g : DL.Env → ARes) (δ : DL.Env) : ARes := match o with
  | some _ => g δ
  | none => .bad
theorem aLend_k {g : DL.Env → ARes} : aLend j g δ = lendO (look δ j) g δ := by
  unfold aLend lendO
  rw [look_eq]
  rcases h : δ[j]? with _ | (_ | p) <;> rfl
theorem lendO_some {p : Nat × D} {g : DL.Env → ARes} : lendO (some p) g δ = g δ := Eq.trans rfl rfl
def consO (d : D) (o : Option (List D)) : Option (List D) := match o with
  | some ds => some (d :: ds)
  | none => none
theorem consO_some : consO d (some ds) = some (d :: ds) := Eq.trans rfl rfl
theorem map_cons {o : Option (List D)} : o.map (d :: ·) = consO d o := by cases o <;> rfl
theorem bind_nil : bindD [] [] [] δ = some [] := Eq.trans rfl rfl
theorem bind_F {p : Nat × D} : bindD (0 :: pm) (none :: ks) (p :: ps) δ = consO p.2 (bindD pm ks ps δ) := map_cons
def bindT (b : Bool) (d : D) (o : Option (List D)) : Option (List D) := if b then consO d o else none
theorem bindT_t {o : Option (List D)} : bindT true d o = consO d o := Eq.trans rfl rfl
theorem bind_T {p : Nat × D} : bindD ((m + 1) :: pm) (none :: ks) (p :: ps) δ = bindT (p.1 == m + 1) p.2 (bindD pm ks ps δ) := by
  simp only [bindD, bindT]
  by_cases h : p.1 = m + 1
  · simp [h, map_cons]
  · simp [h]
def bindL (q : Option (Nat × D)) (m : Nat) (o : Option (List D)) : Option (List D) := match q with
  | some (k, d) => bindT (k == m + 1) d o
  | none => none
theorem bindL_some : bindL (some (n, d)) m = bindT (n == m + 1) d := Eq.trans rfl rfl
theorem bind_L : bindD ((m + 1) :: pm) (some j :: ks) ps δ = bindL (look δ j) m (bindD pm ks ps (put δ j none)) := by
  simp only [bindD]
  rw [look_eq, put_eq]
  rcases h : δ[j]? with _ | (_ | ⟨k, d⟩)
  · rfl
  · rfl
  · simp only [Option.join_some, bindL, bindT]
    by_cases z : k = m + 1
    · simp [z, map_cons]
    · simp [z]
theorem none_nil : noneD [] δ = δ := Eq.trans rfl rfl
theorem none_F : noneD (none :: ks) δ = noneD ks δ := Eq.trans rfl rfl
theorem none_L : noneD (some j :: ks) δ = noneD ks (put δ j none) := by rw [put_eq]; rfl
theorem back_nil : backD [] [] [] δ = some δ := Eq.trans rfl rfl
theorem back_F : backD (0 :: pm) (none :: ks) outs δ = backD pm ks outs δ := by cases outs <;> rfl
theorem back_T : backD ((m + 1) :: pm) (none :: ks) (d :: outs) δ = backD pm ks outs δ := Eq.trans rfl rfl
theorem back_L : backD ((m + 1) :: pm) (some j :: ks) (d :: outs) δ = backD pm ks outs (put δ j (some (m + 1, d))) := by rw [put_eq]; rfl
def finO (o : Option (List D)) (m : Nat) (d : D) : FRes := match o with
  | some outs => .ok m d outs
  | none => .bad
def finX (o : Option (List D)) (x : XD) : FRes := match o with
  | some outs => .exc x outs
  | none => .bad
def SRes.kfin (r : SRes) (pm : List Nat) : FRes := match r with
  | .nx δ => finO (outsOf pm δ) 0 .non
  | .ret m d δ => finO (outsOf pm δ) m d
  | .exc x δ => finX (outsOf pm δ) x
  | _ => .bad
theorem runF_k : runF pm n f ds = (f (startD pm ds n)).kfin pm := by
  unfold runF SRes.kfin
  cases f (startD pm ds n) <;> try rfl
theorem kfin_nx : (SRes.nx δ).kfin pm = finO (outsOf pm δ) 0 .non := Eq.trans rfl rfl
theorem kfin_ret : (SRes.ret m d δ).kfin pm = finO (outsOf pm δ) m d := Eq.trans rfl rfl
theorem kfin_exc : (SRes.exc x δ).kfin pm = finX (outsOf pm δ) x := Eq.trans rfl rfl
theorem finO_some : finO (some outs) m d = .ok m d outs := Eq.trans rfl rfl
theorem finX_some : finX (some outs) x = .exc x outs := Eq.trans rfl rfl
theorem outs_nil : outsOf [] δ = some [] := by cases δ <;> rfl
theorem outs_F {y : Option (Nat × D)} : outsOf (0 :: pm) (y :: δ) = outsOf pm δ := by cases y <;> rfl
theorem outs_O : outsOf ((m + 1) :: pm) (some (n, d) :: δ) = bindT (n == m + 1) d (outsOf pm δ) := by
  simp only [outsOf, bindT]
  by_cases h : n = m + 1
  · simp [h, map_cons]
  · simp [h]
theorem start_cons : startD (m :: pm) (d :: ds) (n + 1) = some (m, d) :: startD pm ds n := startD_cons m pm d ds n
theorem start_nil : startD [] [] 0 = [] := Eq.trans rfl rfl
theorem start_nilS : startD [] [] (n + 1) = none :: startD [] [] n := by simp [startD, List.replicate_succ]
end
local macro_rules | `(tactic| walk_at "dl") => `(tactic| skip)
end DL
namespace DL
open PySem PySem.Spec L2
open PyProof.Rows hiding St
section
variable {i j : Int} {b c : Bool} {x y : Str} {d e f g : D} {ds es : List D} {m n k : Nat} {p : List Nat} {ps : List (Nat × D)}
theorem gAdd_i : gAdd (.int i) (.int j) = some (0, .int (i + j)) := Eq.trans rfl rfl
theorem gAdd_l (h : ds.length + es.length ≤ sizeLine) : gAdd (.lst ds) (.lst es) = some (1, .lst (ds ++ es)) := if_pos h
theorem gAdd_t (h : ds.length + es.length ≤ sizeLine) (h1 : ds ≠ []) (h2 : es ≠ []) : gAdd (.tup ds) (.tup es) = some (0, .tup (ds ++ es)) := if_pos ⟨h, h1, h2⟩
theorem gSub_i : DL.gSub (.int i) (.int j) = some (0, .int (i - j)) := Eq.trans rfl rfl
theorem gMod_i (h : j ≠ 0) : gMod (.int i) (.int j) = some (0, .int (i.fmod j)) := if_pos h
theorem gNeg_i : gNeg (.int i) = some (0, .int (-i)) := Eq.trans rfl rfl
theorem log2_lt {n k : Nat} (h : n < 2 ^ k) (hk : 0 < k) : n.log2 < k := by
  by_cases z : n = 0
  · subst z; simpa using hk
  · exact (Nat.log2_lt z).mpr h
theorem gMul_b (a c : Nat) (h : i.natAbs < 2 ^ a) (h' : j.natAbs < 2 ^ c) (h1 : a + c ≤ 1000000) (ha : 0 < a) (hc : 0 < c) : gMul (.int i) (.int j) = some (0, .int (i * j)) :=
  if_pos (by have := log2_lt h ha; have := log2_lt h' hc; omega)
theorem mul_b (a c : Nat) (h : i.natAbs < 2 ^ a) (h' : j.natAbs < 2 ^ c) : (i * j).natAbs < 2 ^ (a + c) := by
  rw [Int.natAbs_mul, Nat.pow_add]
  exact Nat.mul_lt_mul'' h h'
theorem gDiv_b (a : Nat) (h : j.natAbs < 2 ^ a) (h1 : a ≤ 9000) (h2 : j ≠ 0) (ha : 0 < a) : gDiv (.int i) (.int j) = some (0, .int (i.fdiv j)) :=
  if_pos ⟨h2, by have := log2_lt h ha; omega⟩
theorem gStr_b (a : Nat) (h : i.natAbs < 2 ^ a) (h1 : a ≤ 1920) (ha : 0 < a) : gStr [.int i] = some (0, .str (toString i)) :=
  if_pos (by have := log2_lt h ha; omega)
theorem gPow_i (h : 0 ≤ j ∧ j ≤ 1000000 ∧ i.natAbs < 2 ^ 64) : gPow (.int i) (.int j) = some (0, .int (i ^ j.toNat)) := if_pos h
theorem gEq_i : gEq (.int i) (.int j) = some (0, .bl (decide (i = j))) := Eq.trans rfl rfl
theorem gEq_b : gEq (.bl b) (.bl c) = some (0, .bl (decide (b = c))) := Eq.trans rfl rfl
theorem gEq_s : gEq (.str x) (.str y) = some (0, .bl (decide (x = y))) := Eq.trans rfl rfl
theorem gNe_i : gNe (.int i) (.int j) = some (0, .bl (!decide (i = j))) := Eq.trans rfl rfl
theorem gNe_b : gNe (.bl b) (.bl c) = some (0, .bl (!decide (b = c))) := Eq.trans rfl rfl
theorem gNe_s : gNe (.str x) (.str y) = some (0, .bl (!decide (x = y))) := Eq.trans rfl rfl
theorem gCmp_i {q : Int → Int → Bool} : gCmp q (.int i) (.int j) = some (0, .bl (q i j)) := Eq.trans rfl rfl
theorem isNon_n : D.isNon .non = true := Eq.trans rfl rfl
theorem isNon_b : D.isNon (.bl b) = false := Eq.trans rfl rfl
theorem isNon_i : D.isNon (.int i) = false := Eq.trans rfl rfl
theorem isNon_s : D.isNon (.str x) = false := Eq.trans rfl rfl
theorem isNon_t : D.isNon (.tup ds) = false := Eq.trans rfl rfl
theorem isNon_l : D.isNon (.lst ds) = false := Eq.trans rfl rfl
theorem gIs_n : gIs d .non = some (0, .bl d.isNon) := by cases d <;> rfl
theorem gIs_b : gIs (.bl b) (.bl c) = some (0, .bl (decide (b = c))) := Eq.trans rfl rfl
theorem gIsNot_n : gIsNot d .non = some (0, .bl (!d.isNon)) := by cases d <;> rfl
theorem gIsNot_b : gIsNot (.bl b) (.bl c) = some (0, .bl (!decide (b = c))) := Eq.trans rfl rfl
theorem gLen_l : gLen [.lst ds] = some (0, .int ds.length) := Eq.trans rfl rfl
theorem gLen_t : gLen [.tup ds] = some (0, .int ds.length) := Eq.trans rfl rfl
theorem gLen_r {ns : List Int} : gLen [.scr ns] = some (0, .int ns.length) := Eq.trans rfl rfl
theorem gAbs_i : gAbs [.int i] = some (0, .int (if i < 0 then -i else i)) := Eq.trans rfl rfl
theorem gMax_i : gMax [.int i, .int j] = some (0, .int (if j > i then j else i)) := Eq.trans rfl rfl
theorem gMin_i : gMin [.int i, .int j] = some (0, .int (if j < i then j else i)) := Eq.trans rfl rfl
theorem gInt_i : gInt [.int i] = some (0, .int i) := Eq.trans rfl rfl
theorem gInt_t : gInt [.bl true] = some (0, .int 1) := Eq.trans rfl rfl
theorem gInt_f : gInt [.bl false] = some (0, .int 0) := Eq.trans rfl rfl
theorem gInt_b : gInt [.bl b] = some (0, .int (if b then 1 else 0)) := Eq.trans rfl rfl
theorem gList_l : gList [.lst ds] = some (1, .lst ds) := Eq.trans rfl rfl
theorem gList_t : gList [.tup ds] = some (1, .lst ds) := Eq.trans rfl rfl
theorem gTuple_l : gTuple [.lst ds] = some (0, .tup ds) := Eq.trans rfl rfl
theorem gTuple_t : gTuple [.tup ds] = some (0, .tup ds) := Eq.trans rfl rfl
def mapO (o : Option D) : Option (Nat × D) := match o with
  | some d => some (0, d)
  | none => none
theorem mapO_k : mapO (some d) = some (0, d) := Eq.trans rfl rfl
theorem gIx_l : gIx (.lst ds) (.int i) = mapO (atI ds i) := by show (atI ds i).map _ = _; cases atI ds i <;> rfl
theorem gIx_t : gIx (.tup ds) (.int i) = mapO (atI ds i) := by show (atI ds i).map _ = _; cases atI ds i <;> rfl
theorem gIx_r {ns : List Int} : gIx (.scr ns) (.int i) = mapO ((atI ns i).map .int) := by show (atI ns i).map _ = _; cases atI ns i <;> rfl
section
variable {α : Type} {a0 a1 a2 a3 a4 a5 a6 : α} {r : List α}
theorem atI_n {xs : List α} {k : Nat} (h : k < xs.length) : atI xs (k : Int) = xs[k]? := by
  unfold atI ixN
  rw [if_pos (by omega), if_pos (by omega)]
  simp
theorem atI_0 : atI (a0 :: r) 0 = some a0 := atI_n (k := 0) (by simp)
theorem atI_1 : atI (a0 :: a1 :: r) 1 = some a1 := atI_n (k := 1) (by simp)
theorem atI_2 : atI (a0 :: a1 :: a2 :: r) 2 = some a2 := atI_n (k := 2) (by simp)
theorem atI_3 : atI (a0 :: a1 :: a2 :: a3 :: r) 3 = some a3 := atI_n (k := 3) (by simp)
theorem atI_4 : atI (a0 :: a1 :: a2 :: a3 :: a4 :: r) 4 = some a4 := atI_n (k := 4) (by simp)
theorem atI_i {xs : List α} {i : Int} (h : 0 ≤ i) (h' : i < xs.length) : atI xs i = xs[i.toNat]? := by
  unfold atI ixN
  rw [if_pos h, if_pos h']
  rfl
theorem ixN_n {n : Nat} {i : Int} (h : 0 ≤ i) (h' : i < n) : ixN n i = some i.toNat := by
  unfold ixN
  rw [if_pos h, if_pos h']
theorem ixN_0 {n : Nat} : ixN (n + 1) 0 = some 0 := ixN_n (by omega) (by omega)
theorem ixN_1 {n : Nat} : ixN (n + 1 + 1) 1 = some 1 := ixN_n (by omega) (by omega)
theorem ixN_2 {n : Nat} : ixN (n + 1 + 1 + 1) 2 = some 2 := ixN_n (by omega) (by omega)
end
theorem isi_non_bool : gIsi "bool" .non = some (0, .bl false) := Eq.trans rfl rfl
theorem isi_non_int : gIsi "int" .non = some (0, .bl false) := Eq.trans rfl rfl
theorem isi_non_str : gIsi "str" .non = some (0, .bl false) := Eq.trans rfl rfl
theorem isi_non_tuple : gIsi "tuple" .non = some (0, .bl false) := Eq.trans rfl rfl
theorem isi_non_list : gIsi "list" .non = some (0, .bl false) := Eq.trans rfl rfl
theorem isi_non_dict : gIsi "dict" .non = some (0, .bl false) := Eq.trans rfl rfl
theorem isi_bl_bool : gIsi "bool" (.bl b) = some (0, .bl true) := Eq.trans rfl rfl
theorem isi_bl_int : gIsi "int" (.bl b) = some (0, .bl true) := Eq.trans rfl rfl
theorem isi_bl_str : gIsi "str" (.bl b) = some (0, .bl false) := Eq.trans rfl rfl
theorem isi_bl_tuple : gIsi "tuple" (.bl b) = some (0, .bl false) := Eq.trans rfl rfl
theorem isi_bl_list : gIsi "list" (.bl b) = some (0, .bl false) := Eq.trans rfl rfl
theorem isi_bl_dict : gIsi "dict" (.bl b) = some (0, .bl false) := Eq.trans rfl rfl
theorem isi_int_bool : gIsi "bool" (.int i) = some (0, .bl false) := Eq.trans rfl rfl
theorem isi_int_int : gIsi "int" (.int i) = some (0, .bl true) := Eq.trans rfl rfl
theorem isi_int_str : gIsi "str" (.int i) = some (0, .bl false) := Eq.trans rfl rfl
theorem isi_int_tuple : gIsi "tuple" (.int i) = some (0, .bl false) := Eq.trans rfl rfl
theorem isi_int_list : gIsi "list" (.int i) = some (0, .bl false) := Eq.trans rfl rfl
theorem isi_int_dict : gIsi "dict" (.int i) = some (0, .bl false) := Eq.trans rfl rfl
theorem isi_str_bool : gIsi "bool" (.str x) = some (0, .bl false) := Eq.trans rfl rfl
theorem isi_str_int : gIsi "int" (.str x) = some (0, .bl false) := Eq.trans rfl rfl
theorem isi_str_str : gIsi "str" (.str x) = some (0, .bl true) := Eq.trans rfl rfl
theorem isi_str_tuple : gIsi "tuple" (.str x) = some (0, .bl false) := Eq.trans rfl rfl
theorem isi_str_list : gIsi "list" (.str x) = some (0, .bl false) := Eq.trans rfl rfl
theorem isi_str_dict : gIsi "dict" (.str x) = some (0, .bl false) := Eq.trans rfl rfl
theorem isi_tup_bool : gIsi "bool" (.tup ds) = some (0, .bl false) := Eq.trans rfl rfl
theorem isi_tup_int : gIsi "int" (.tup ds) = some (0, .bl false) := Eq.trans rfl rfl
theorem isi_tup_str : gIsi "str" (.tup ds) = some (0, .bl false) := Eq.trans rfl rfl
theorem isi_tup_tuple : gIsi "tuple" (.tup ds) = some (0, .bl true) := Eq.trans rfl rfl
theorem isi_tup_list : gIsi "list" (.tup ds) = some (0, .bl false) := Eq.trans rfl rfl
theorem isi_tup_dict : gIsi "dict" (.tup ds) = some (0, .bl false) := Eq.trans rfl rfl
theorem isi_lst_bool : gIsi "bool" (.lst ds) = some (0, .bl false) := Eq.trans rfl rfl
theorem isi_lst_int : gIsi "int" (.lst ds) = some (0, .bl false) := Eq.trans rfl rfl
theorem isi_lst_str : gIsi "str" (.lst ds) = some (0, .bl false) := Eq.trans rfl rfl
theorem isi_lst_tuple : gIsi "tuple" (.lst ds) = some (0, .bl false) := Eq.trans rfl rfl
theorem isi_lst_list : gIsi "list" (.lst ds) = some (0, .bl true) := Eq.trans rfl rfl
theorem isi_lst_dict : gIsi "dict" (.lst ds) = some (0, .bl false) := Eq.trans rfl rfl
theorem isi_dct_bool {ks} : gIsi "bool" (.dct ks es) = some (0, .bl false) := Eq.trans rfl rfl
theorem isi_dct_int {ks} : gIsi "int" (.dct ks es) = some (0, .bl false) := Eq.trans rfl rfl
theorem isi_dct_str {ks} : gIsi "str" (.dct ks es) = some (0, .bl false) := Eq.trans rfl rfl
theorem isi_dct_tuple {ks} : gIsi "tuple" (.dct ks es) = some (0, .bl false) := Eq.trans rfl rfl
theorem isi_dct_list {ks} : gIsi "list" (.dct ks es) = some (0, .bl false) := Eq.trans rfl rfl
theorem isi_dct_dict {ks} : gIsi "dict" (.dct ks es) = some (0, .bl true) := Eq.trans rfl rfl
theorem isi_scr_bool {ns : List Int} : gIsi "bool" (.scr ns) = some (0, .bl false) := Eq.trans rfl rfl
theorem isi_scr_int {ns : List Int} : gIsi "int" (.scr ns) = some (0, .bl false) := Eq.trans rfl rfl
theorem isi_scr_str {ns : List Int} : gIsi "str" (.scr ns) = some (0, .bl false) := Eq.trans rfl rfl
theorem isi_scr_tuple {ns : List Int} : gIsi "tuple" (.scr ns) = some (0, .bl false) := Eq.trans rfl rfl
theorem isi_scr_list {ns : List Int} : gIsi "list" (.scr ns) = some (0, .bl true) := Eq.trans rfl rfl
theorem isi_scr_dict {ns : List Int} : gIsi "dict" (.scr ns) = some (0, .bl false) := Eq.trans rfl rfl
theorem klst_0 {δ : DL.Env} : (ARes.ok [] δ).klst = .ok (dispM [] + 1) (.lst []) δ := klst_ok rfl
theorem ktup_0 {δ : DL.Env} : (ARes.ok [] δ).ktup = .ok (dispM []) (.tup []) δ := ktup_ok rfl
theorem klst_1 {q0 : Nat × D} {δ : DL.Env} : (ARes.ok [q0] δ).klst = .ok (dispM [q0] + 1) (.lst [q0.2]) δ := klst_ok rfl
theorem ktup_1 {q0 : Nat × D} {δ : DL.Env} : (ARes.ok [q0] δ).ktup = .ok (dispM [q0]) (.tup [q0.2]) δ := ktup_ok rfl
theorem klst_2 {q0 q1 : Nat × D} {δ : DL.Env} : (ARes.ok [q0, q1] δ).klst = .ok (dispM [q0, q1] + 1) (.lst [q0.2, q1.2]) δ := klst_ok rfl
theorem ktup_2 {q0 q1 : Nat × D} {δ : DL.Env} : (ARes.ok [q0, q1] δ).ktup = .ok (dispM [q0, q1]) (.tup [q0.2, q1.2]) δ := ktup_ok rfl
theorem klst_3 {q0 q1 q2 : Nat × D} {δ : DL.Env} : (ARes.ok [q0, q1, q2] δ).klst = .ok (dispM [q0, q1, q2] + 1) (.lst [q0.2, q1.2, q2.2]) δ := klst_ok rfl
theorem ktup_3 {q0 q1 q2 : Nat × D} {δ : DL.Env} : (ARes.ok [q0, q1, q2] δ).ktup = .ok (dispM [q0, q1, q2]) (.tup [q0.2, q1.2, q2.2]) δ := ktup_ok rfl
theorem klst_4 {q0 q1 q2 q3 : Nat × D} {δ : DL.Env} : (ARes.ok [q0, q1, q2, q3] δ).klst = .ok (dispM [q0, q1, q2, q3] + 1) (.lst [q0.2, q1.2, q2.2, q3.2]) δ := klst_ok rfl
theorem ktup_4 {q0 q1 q2 q3 : Nat × D} {δ : DL.Env} : (ARes.ok [q0, q1, q2, q3] δ).ktup = .ok (dispM [q0, q1, q2, q3]) (.tup [q0.2, q1.2, q2.2, q3.2]) δ := ktup_ok rfl
theorem klst_5 {q0 q1 q2 q3 q4 : Nat × D} {δ : DL.Env} : (ARes.ok [q0, q1, q2, q3, q4] δ).klst = .ok (dispM [q0, q1, q2, q3, q4] + 1) (.lst [q0.2, q1.2, q2.2, q3.2, q4.2]) δ := klst_ok rfl
theorem ktup_5 {q0 q1 q2 q3 q4 : Nat × D} {δ : DL.Env} : (ARes.ok [q0, q1, q2, q3, q4] δ).ktup = .ok (dispM [q0, q1, q2, q3, q4]) (.tup [q0.2, q1.2, q2.2, q3.2, q4.2]) δ := ktup_ok rfl
theorem klst_6 {q0 q1 q2 q3 q4 q5 : Nat × D} {δ : DL.Env} : (ARes.ok [q0, q1, q2, q3, q4, q5] δ).klst = .ok (dispM [q0, q1, q2, q3, q4, q5] + 1) (.lst [q0.2, q1.2, q2.2, q3.2, q4.2, q5.2]) δ := klst_ok rfl
theorem ktup_6 {q0 q1 q2 q3 q4 q5 : Nat × D} {δ : DL.Env} : (ARes.ok [q0, q1, q2, q3, q4, q5] δ).ktup = .ok (dispM [q0, q1, q2, q3, q4, q5]) (.tup [q0.2, q1.2, q2.2, q3.2, q4.2, q5.2]) δ := ktup_ok rfl
theorem klst_7 {q0 q1 q2 q3 q4 q5 q6 : Nat × D} {δ : DL.Env} : (ARes.ok [q0, q1, q2, q3, q4, q5, q6] δ).klst = .ok (dispM [q0, q1, q2, q3, q4, q5, q6] + 1) (.lst [q0.2, q1.2, q2.2, q3.2, q4.2, q5.2, q6.2]) δ := klst_ok rfl
theorem ktup_7 {q0 q1 q2 q3 q4 q5 q6 : Nat × D} {δ : DL.Env} : (ARes.ok [q0, q1, q2, q3, q4, q5, q6] δ).ktup = .ok (dispM [q0, q1, q2, q3, q4, q5, q6]) (.tup [q0.2, q1.2, q2.2, q3.2, q4.2, q5.2, q6.2]) δ := ktup_ok rfl
theorem klst_8 {q0 q1 q2 q3 q4 q5 q6 q7 : Nat × D} {δ : DL.Env} : (ARes.ok [q0, q1, q2, q3, q4, q5, q6, q7] δ).klst = .ok (dispM [q0, q1, q2, q3, q4, q5, q6, q7] + 1) (.lst [q0.2, q1.2, q2.2, q3.2, q4.2, q5.2, q6.2, q7.2]) δ := klst_ok rfl
theorem ktup_8 {q0 q1 q2 q3 q4 q5 q6 q7 : Nat × D} {δ : DL.Env} : (ARes.ok [q0, q1, q2, q3, q4, q5, q6, q7] δ).ktup = .ok (dispM [q0, q1, q2, q3, q4, q5, q6, q7]) (.tup [q0.2, q1.2, q2.2, q3.2, q4.2, q5.2, q6.2, q7.2]) δ := ktup_ok rfl
theorem klst_9 {q0 q1 q2 q3 q4 q5 q6 q7 q8 : Nat × D} {δ : DL.Env} : (ARes.ok [q0, q1, q2, q3, q4, q5, q6, q7, q8] δ).klst = .ok (dispM [q0, q1, q2, q3, q4, q5, q6, q7, q8] + 1) (.lst [q0.2, q1.2, q2.2, q3.2, q4.2, q5.2, q6.2, q7.2, q8.2]) δ := klst_ok rfl
theorem ktup_9 {q0 q1 q2 q3 q4 q5 q6 q7 q8 : Nat × D} {δ : DL.Env} : (ARes.ok [q0, q1, q2, q3, q4, q5, q6, q7, q8] δ).ktup = .ok (dispM [q0, q1, q2, q3, q4, q5, q6, q7, q8]) (.tup [q0.2, q1.2, q2.2, q3.2, q4.2, q5.2, q6.2, q7.2, q8.2]) δ := ktup_ok rfl
theorem klst_10 {q0 q1 q2 q3 q4 q5 q6 q7 q8 q9 : Nat × D} {δ : DL.Env} : (ARes.ok [q0, q1, q2, q3, q4, q5, q6, q7, q8, q9] δ).klst = .ok (dispM [q0, q1, q2, q3, q4, q5, q6, q7, q8, q9] + 1) (.lst [q0.2, q1.2, q2.2, q3.2, q4.2, q5.2, q6.2, q7.2, q8.2, q9.2]) δ := klst_ok rfl
theorem ktup_10 {q0 q1 q2 q3 q4 q5 q6 q7 q8 q9 : Nat × D} {δ : DL.Env} : (ARes.ok [q0, q1, q2, q3, q4, q5, q6, q7, q8, q9] δ).ktup = .ok (dispM [q0, q1, q2, q3, q4, q5, q6, q7, q8, q9]) (.tup [q0.2, q1.2, q2.2, q3.2, q4.2, q5.2, q6.2, q7.2, q8.2, q9.2]) δ := ktup_ok rfl
theorem klst_11 {q0 q1 q2 q3 q4 q5 q6 q7 q8 q9 q10 : Nat × D} {δ : DL.Env} : (ARes.ok [q0, q1, q2, q3, q4, q5, q6, q7, q8, q9, q10] δ).klst = .ok (dispM [q0, q1, q2, q3, q4, q5, q6, q7, q8, q9, q10] + 1) (.lst [q0.2, q1.2, q2.2, q3.2, q4.2, q5.2, q6.2, q7.2, q8.2, q9.2, q10.2]) δ := klst_ok rfl
theorem ktup_11 {q0 q1 q2 q3 q4 q5 q6 q7 q8 q9 q10 : Nat × D} {δ : DL.Env} : (ARes.ok [q0, q1, q2, q3, q4, q5, q6, q7, q8, q9, q10] δ).ktup = .ok (dispM [q0, q1, q2, q3, q4, q5, q6, q7, q8, q9, q10]) (.tup [q0.2, q1.2, q2.2, q3.2, q4.2, q5.2, q6.2, q7.2, q8.2, q9.2, q10.2]) δ := ktup_ok rfl
theorem klst_12 {q0 q1 q2 q3 q4 q5 q6 q7 q8 q9 q10 q11 : Nat × D} {δ : DL.Env} : (ARes.ok [q0, q1, q2, q3, q4, q5, q6, q7, q8, q9, q10, q11] δ).klst = .ok (dispM [q0, q1, q2, q3, q4, q5, q6, q7, q8, q9, q10, q11] + 1) (.lst [q0.2, q1.2, q2.2, q3.2, q4.2, q5.2, q6.2, q7.2, q8.2, q9.2, q10.2, q11.2]) δ := klst_ok rfl
theorem ktup_12 {q0 q1 q2 q3 q4 q5 q6 q7 q8 q9 q10 q11 : Nat × D} {δ : DL.Env} : (ARes.ok [q0, q1, q2, q3, q4, q5, q6, q7, q8, q9, q10, q11] δ).ktup = .ok (dispM [q0, q1, q2, q3, q4, q5, q6, q7, q8, q9, q10, q11]) (.tup [q0.2, q1.2, q2.2, q3.2, q4.2, q5.2, q6.2, q7.2, q8.2, q9.2, q10.2, q11.2]) δ := ktup_ok rfl
theorem klst_13 {q0 q1 q2 q3 q4 q5 q6 q7 q8 q9 q10 q11 q12 : Nat × D} {δ : DL.Env} : (ARes.ok [q0, q1, q2, q3, q4, q5, q6, q7, q8, q9, q10, q11, q12] δ).klst = .ok (dispM [q0, q1, q2, q3, q4, q5, q6, q7, q8, q9, q10, q11, q12] + 1) (.lst [q0.2, q1.2, q2.2, q3.2, q4.2, q5.2, q6.2, q7.2, q8.2, q9.2, q10.2, q11.2, q12.2]) δ := klst_ok rfl
theorem ktup_13 {q0 q1 q2 q3 q4 q5 q6 q7 q8 q9 q10 q11 q12 : Nat × D} {δ : DL.Env} : (ARes.ok [q0, q1, q2, q3, q4, q5, q6, q7, q8, q9, q10, q11, q12] δ).ktup = .ok (dispM [q0, q1, q2, q3, q4, q5, q6, q7, q8, q9, q10, q11, q12]) (.tup [q0.2, q1.2, q2.2, q3.2, q4.2, q5.2, q6.2, q7.2, q8.2, q9.2, q10.2, q11.2, q12.2]) δ := ktup_ok rfl
theorem klst_14 {q0 q1 q2 q3 q4 q5 q6 q7 q8 q9 q10 q11 q12 q13 : Nat × D} {δ : DL.Env} : (ARes.ok [q0, q1, q2, q3, q4, q5, q6, q7, q8, q9, q10, q11, q12, q13] δ).klst = .ok (dispM [q0, q1, q2, q3, q4, q5, q6, q7, q8, q9, q10, q11, q12, q13] + 1) (.lst [q0.2, q1.2, q2.2, q3.2, q4.2, q5.2, q6.2, q7.2, q8.2, q9.2, q10.2, q11.2, q12.2, q13.2]) δ := klst_ok rfl
theorem ktup_14 {q0 q1 q2 q3 q4 q5 q6 q7 q8 q9 q10 q11 q12 q13 : Nat × D} {δ : DL.Env} : (ARes.ok [q0, q1, q2, q3, q4, q5, q6, q7, q8, q9, q10, q11, q12, q13] δ).ktup = .ok (dispM [q0, q1, q2, q3, q4, q5, q6, q7, q8, q9, q10, q11, q12, q13]) (.tup [q0.2, q1.2, q2.2, q3.2, q4.2, q5.2, q6.2, q7.2, q8.2, q9.2, q10.2, q11.2, q12.2, q13.2]) δ := ktup_ok rfl
theorem klst_15 {q0 q1 q2 q3 q4 q5 q6 q7 q8 q9 q10 q11 q12 q13 q14 : Nat × D} {δ : DL.Env} : (ARes.ok [q0, q1, q2, q3, q4, q5, q6, q7, q8, q9, q10, q11, q12, q13, q14] δ).klst = .ok (dispM [q0, q1, q2, q3, q4, q5, q6, q7, q8, q9, q10, q11, q12, q13, q14] + 1) (.lst [q0.2, q1.2, q2.2, q3.2, q4.2, q5.2, q6.2, q7.2, q8.2, q9.2, q10.2, q11.2, q12.2, q13.2, q14.2]) δ := klst_ok rfl
theorem ktup_15 {q0 q1 q2 q3 q4 q5 q6 q7 q8 q9 q10 q11 q12 q13 q14 : Nat × D} {δ : DL.Env} : (ARes.ok [q0, q1, q2, q3, q4, q5, q6, q7, q8, q9, q10, q11, q12, q13, q14] δ).ktup = .ok (dispM [q0, q1, q2, q3, q4, q5, q6, q7, q8, q9, q10, q11, q12, q13, q14]) (.tup [q0.2, q1.2, q2.2, q3.2, q4.2, q5.2, q6.2, q7.2, q8.2, q9.2, q10.2, q11.2, q12.2, q13.2, q14.2]) δ := ktup_ok rfl
theorem klst_16 {q0 q1 q2 q3 q4 q5 q6 q7 q8 q9 q10 q11 q12 q13 q14 q15 : Nat × D} {δ : DL.Env} : (ARes.ok [q0, q1, q2, q3, q4, q5, q6, q7, q8, q9, q10, q11, q12, q13, q14, q15] δ).klst = .ok (dispM [q0, q1, q2, q3, q4, q5, q6, q7, q8, q9, q10, q11, q12, q13, q14, q15] + 1) (.lst [q0.2, q1.2, q2.2, q3.2, q4.2, q5.2, q6.2, q7.2, q8.2, q9.2, q10.2, q11.2, q12.2, q13.2, q14.2, q15.2]) δ := klst_ok rfl
theorem ktup_16 {q0 q1 q2 q3 q4 q5 q6 q7 q8 q9 q10 q11 q12 q13 q14 q15 : Nat × D} {δ : DL.Env} : (ARes.ok [q0, q1, q2, q3, q4, q5, q6, q7, q8, q9, q10, q11, q12, q13, q14, q15] δ).ktup = .ok (dispM [q0, q1, q2, q3, q4, q5, q6, q7, q8, q9, q10, q11, q12, q13, q14, q15]) (.tup [q0.2, q1.2, q2.2, q3.2, q4.2, q5.2, q6.2, q7.2, q8.2, q9.2, q10.2, q11.2, q12.2, q13.2, q14.2, q15.2]) δ := ktup_ok rfl
theorem klst_17 {q0 q1 q2 q3 q4 q5 q6 q7 q8 q9 q10 q11 q12 q13 q14 q15 q16 : Nat × D} {δ : DL.Env} : (ARes.ok [q0, q1, q2, q3, q4, q5, q6, q7, q8, q9, q10, q11, q12, q13, q14, q15, q16] δ).klst = .ok (dispM [q0, q1, q2, q3, q4, q5, q6, q7, q8, q9, q10, q11, q12, q13, q14, q15, q16] + 1) (.lst [q0.2, q1.2, q2.2, q3.2, q4.2, q5.2, q6.2, q7.2, q8.2, q9.2, q10.2, q11.2, q12.2, q13.2, q14.2, q15.2, q16.2]) δ := klst_ok rfl
theorem ktup_17 {q0 q1 q2 q3 q4 q5 q6 q7 q8 q9 q10 q11 q12 q13 q14 q15 q16 : Nat × D} {δ : DL.Env} : (ARes.ok [q0, q1, q2, q3, q4, q5, q6, q7, q8, q9, q10, q11, q12, q13, q14, q15, q16] δ).ktup = .ok (dispM [q0, q1, q2, q3, q4, q5, q6, q7, q8, q9, q10, q11, q12, q13, q14, q15, q16]) (.tup [q0.2, q1.2, q2.2, q3.2, q4.2, q5.2, q6.2, q7.2, q8.2, q9.2, q10.2, q11.2, q12.2, q13.2, q14.2, q15.2, q16.2]) δ := ktup_ok rfl
theorem klst_18 {q0 q1 q2 q3 q4 q5 q6 q7 q8 q9 q10 q11 q12 q13 q14 q15 q16 q17 : Nat × D} {δ : DL.Env} : (ARes.ok [q0, q1, q2, q3, q4, q5, q6, q7, q8, q9, q10, q11, q12, q13, q14, q15, q16, q17] δ).klst = .ok (dispM [q0, q1, q2, q3, q4, q5, q6, q7, q8, q9, q10, q11, q12, q13, q14, q15, q16, q17] + 1) (.lst [q0.2, q1.2, q2.2, q3.2, q4.2, q5.2, q6.2, q7.2, q8.2, q9.2, q10.2, q11.2, q12.2, q13.2, q14.2, q15.2, q16.2, q17.2]) δ := klst_ok rfl
theorem ktup_18 {q0 q1 q2 q3 q4 q5 q6 q7 q8 q9 q10 q11 q12 q13 q14 q15 q16 q17 : Nat × D} {δ : DL.Env} : (ARes.ok [q0, q1, q2, q3, q4, q5, q6, q7, q8, q9, q10, q11, q12, q13, q14, q15, q16, q17] δ).ktup = .ok (dispM [q0, q1, q2, q3, q4, q5, q6, q7, q8, q9, q10, q11, q12, q13, q14, q15, q16, q17]) (.tup [q0.2, q1.2, q2.2, q3.2, q4.2, q5.2, q6.2, q7.2, q8.2, q9.2, q10.2, q11.2, q12.2, q13.2, q14.2, q15.2, q16.2, q17.2]) δ := ktup_ok rfl
theorem klst_19 {q0 q1 q2 q3 q4 q5 q6 q7 q8 q9 q10 q11 q12 q13 q14 q15 q16 q17 q18 : Nat × D} {δ : DL.Env} : (ARes.ok [q0, q1, q2, q3, q4, q5, q6, q7, q8, q9, q10, q11, q12, q13, q14, q15, q16, q17, q18] δ).klst = .ok (dispM [q0, q1, q2, q3, q4, q5, q6, q7, q8, q9, q10, q11, q12, q13, q14, q15, q16, q17, q18] + 1) (.lst [q0.2, q1.2, q2.2, q3.2, q4.2, q5.2, q6.2, q7.2, q8.2, q9.2, q10.2, q11.2, q12.2, q13.2, q14.2, q15.2, q16.2, q17.2, q18.2]) δ := klst_ok rfl
theorem ktup_19 {q0 q1 q2 q3 q4 q5 q6 q7 q8 q9 q10 q11 q12 q13 q14 q15 q16 q17 q18 : Nat × D} {δ : DL.Env} : (ARes.ok [q0, q1, q2, q3, q4, q5, q6, q7, q8, q9, q10, q11, q12, q13, q14, q15, q16, q17, q18] δ).ktup = .ok (dispM [q0, q1, q2, q3, q4, q5, q6, q7, q8, q9, q10, q11, q12, q13, q14, q15, q16, q17, q18]) (.tup [q0.2, q1.2, q2.2, q3.2, q4.2, q5.2, q6.2, q7.2, q8.2, q9.2, q10.2, q11.2, q12.2, q13.2, q14.2, q15.2, q16.2, q17.2, q18.2]) δ := ktup_ok rfl
theorem klst_20 {q0 q1 q2 q3 q4 q5 q6 q7 q8 q9 q10 q11 q12 q13 q14 q15 q16 q17 q18 q19 : Nat × D} {δ : DL.Env} : (ARes.ok [q0, q1, q2, q3, q4, q5, q6, q7, q8, q9, q10, q11, q12, q13, q14, q15, q16, q17, q18, q19] δ).klst = .ok (dispM [q0, q1, q2, q3, q4, q5, q6, q7, q8, q9, q10, q11, q12, q13, q14, q15, q16, q17, q18, q19] + 1) (.lst [q0.2, q1.2, q2.2, q3.2, q4.2, q5.2, q6.2, q7.2, q8.2, q9.2, q10.2, q11.2, q12.2, q13.2, q14.2, q15.2, q16.2, q17.2, q18.2, q19.2]) δ := klst_ok rfl
theorem ktup_20 {q0 q1 q2 q3 q4 q5 q6 q7 q8 q9 q10 q11 q12 q13 q14 q15 q16 q17 q18 q19 : Nat × D} {δ : DL.Env} : (ARes.ok [q0, q1, q2, q3, q4, q5, q6, q7, q8, q9, q10, q11, q12, q13, q14, q15, q16, q17, q18, q19] δ).ktup = .ok (dispM [q0, q1, q2, q3, q4, q5, q6, q7, q8, q9, q10, q11, q12, q13, q14, q15, q16, q17, q18, q19]) (.tup [q0.2, q1.2, q2.2, q3.2, q4.2, q5.2, q6.2, q7.2, q8.2, q9.2, q10.2, q11.2, q12.2, q13.2, q14.2, q15.2, q16.2, q17.2, q18.2, q19.2]) δ := ktup_ok rfl
theorem at_nil : D.at d [] = some d := by cases d <;> rfl
theorem put_nil : D.put d [] e = e := by cases d <;> rfl
def atO (o : Option D) (p : List Nat) : Option D := match o with
  | some d => d.at p
  | none => none
theorem at_tup : D.at (.tup ds) (n :: p) = atO (ds[n]?) p := by
  show (match ds[n]? with | some d => D.at d p | none => none) = _
  cases ds[n]? <;> rfl
theorem atO_k : atO (some d) p = d.at p := Eq.trans rfl rfl
theorem lenIs_n : lenIs [] 0 = true := Eq.trans rfl rfl
theorem lenIs_c {o : Option (Nat × D)} {δ : DL.Env} : lenIs (o :: δ) (n + 1) = lenIs δ n := Eq.trans rfl rfl
theorem isLst_l : isLst (some (.lst ds)) = true := Eq.trans rfl rfl
theorem ownL_k : ownL (some (k + 1, d)) p = isLst (d.at p) := Eq.trans rfl rfl
theorem dispM_nil : dispM [] = 0 := Eq.trans rfl rfl
theorem dispM_at (h : d.atom = true) : dispM ((m, d) :: ps) = dispM ps := by
  unfold dispM
  rw [List.find?_cons_of_neg (by simp [h])]
  cases List.find? (fun p => !p.2.atom) ps with
  | none => rfl
  | some p => simp only [List.all_cons, h, Bool.true_or, Bool.true_and]
theorem dispM_z (h : ps.all (fun q => q.1 == 0) = true) : dispM ps = 0 := by
  unfold dispM
  split
  · rfl
  · rename_i p e
    have := List.mem_of_find?_eq_some e
    rw [List.all_eq_true] at h
    have := h p this
    split
    · simpa using this
    · rfl
def dsp : Option Nat → List (Nat × D) → Nat
  | none, [] => 0
  | some k, [] => k
  | none, p :: ps => if p.2.atom then dsp none ps else dsp (some p.1) ps
  | some k, p :: ps => if p.2.atom || p.1 == k then dsp (some k) ps else 0
theorem dsp_some : ∀ (ps : List (Nat × D)) (k : Nat), dsp (some k) ps = if ps.all (fun q => q.2.atom || q.1 == k) then k else 0
  | [], k => rfl
  | p :: ps, k => by
    have e : dsp (some k) (p :: ps) = if (p.2.atom || p.1 == k) = true then dsp (some k) ps else 0 := rfl
    rw [e, dsp_some ps k]
    by_cases h : (p.2.atom || p.1 == k) = true
    · rw [if_pos h]; simp only [List.all_cons, h, Bool.true_and]
    · rw [if_neg h, if_neg (by simp only [List.all_cons, h]; simp)]
theorem dispM_eq : ∀ ps : List (Nat × D), dispM ps = dsp none ps
  | [] => rfl
  | p :: ps => by
    by_cases h : p.2.atom = true
    · rw [dispM_at (m := p.1) (d := p.2) h, dispM_eq ps]; simp [dsp, h]
    · unfold dispM
      rw [List.find?_cons_of_pos (by simp [h])]
      simp only [dsp, h, dsp_some, List.all_cons, beq_self_eq_true, Bool.or_true, Bool.true_and]
      rfl
theorem dsp_n : dsp none [] = 0 := Eq.trans rfl rfl
theorem dsp_s : dsp (some k) [] = k := Eq.trans rfl rfl
theorem dsp_na (h : d.atom = true) : dsp none ((m, d) :: ps) = dsp none ps := if_pos h
theorem dsp_nm (h : d.atom = false) : dsp none ((m, d) :: ps) = dsp (some m) ps := if_neg (by simp [h])
theorem dsp_sa (h : d.atom = true) : dsp (some k) ((m, d) :: ps) = dsp (some k) ps := if_pos (by simp [h])
theorem dsp_sm : dsp (some k) ((k, d) :: ps) = dsp (some k) ps := if_pos (by simp)
theorem dsp_sd (h : d.atom = false) (h' : (m == k) = false) : dsp (some k) ((m, d) :: ps) = 0 := if_neg (by simp [h, h'])
theorem atom_t : (D.tup ds).atom = false := Eq.trans rfl rfl
theorem atom_l : (D.lst ds).atom = false := Eq.trans rfl rfl
theorem atom_d {ks : List Key} : (D.dct ks ds).atom = false := Eq.trans rfl rfl
theorem atom_i : (D.int i).atom = true := Eq.trans rfl rfl
theorem atom_b : (D.bl b).atom = true := Eq.trans rfl rfl
theorem atom_s : (D.str x).atom = true := Eq.trans rfl rfl
theorem atom_n : D.non.atom = true := Eq.trans rfl rfl
theorem joinM_a (h : d.atom = true) : joinM k m d = true := by unfold joinM; simp [h]
theorem joinM_0 : joinM 0 m d = true := by unfold joinM; simp
theorem ixO2_a {δ : DL.Env} (h : d.atom = true) : ixO2 (some d) δ k = .ok 0 d δ := by rw [ixO2_k, h]; rfl
theorem ixO2_0 {δ : DL.Env} : ixO2 (some d) δ 0 = .ok 0 d δ := by rw [ixO2_k]; simp
theorem dict0_k {δ : DL.Env} : eDict0 δ = .ok 1 (.dct [] []) δ := Eq.trans rfl rfl
noncomputable def TRes.kwh (r : TRes) (c : DL.Env → TRes) (body : SV) : SRes := match r with
  | .ok true δ1 => (body δ1).kloop (sWh c body)
  | .ok false δ1 => .nx δ1
  | .exc x δ1 => .exc x δ1
  | .bad => .bad
section
variable {cc : DL.Env → TRes} {body : SV} {δ : DL.Env}
theorem sWh_k : sWh cc body δ = (cc δ).kwh cc body := by
  rw [sWh_turn]
  unfold TRes.kwh
  cases cc δ with
  | bad => rfl
  | exc x δ' => rfl
  | ok b δ' =>
    cases b
    · rfl
    · simp only
      unfold SRes.kloop
      cases body δ' <;> rfl
theorem kwh_t : (TRes.ok true δ).kwh cc body = (body δ).kloop (sWh cc body) := Eq.trans rfl rfl
theorem kwh_f : (TRes.ok false δ).kwh cc body = .nx δ := Eq.trans rfl rfl
end
def lenO (o : Option D) (δ : DL.Env) : Res := match o with
  | some (.lst ds) => .ok 0 (.int ds.length) δ
  | _ => .bad
def atP (o : Option (Nat × D)) (p : List Nat) : Option D := match o with
  | some (_, d) => d.at p
  | none => none
theorem atP_k : atP (some (m, d)) p = d.at p := Eq.trans rfl rfl
theorem eLenO_k {δ : DL.Env} {q : Nat} (h : ownL (look δ q) p = true) : eLenO q p δ = lenO (atP (look δ q) p) δ := by
  unfold eLenO
  rw [look_eq] at h ⊢
  rcases h1 : δ[q]? with _ | (_ | ⟨_ | k, d⟩)
  · rw [h1] at h; cases h
  · rw [h1] at h; cases h
  · rw [h1] at h; cases h
  · simp only [Option.join_some, lenO, atP]
    all_goals
      rcases d.at p with _ | d'
      · rfl
      · cases d' <;> rfl
theorem lenO_k {δ : DL.Env} : lenO (some (.lst ds)) δ = .ok 0 (.int ds.length) δ := Eq.trans rfl rfl
end
end DL
namespace DL
open PySem PySem.Spec L2
open PyProof.Rows hiding St
def fz1 : Option (Nat × D) → Option (Nat × D)
  | some p => some (0, p.2)
  | none => none
def viewD : List Bool → DL.Env → DL.Env
  | _, [] => []
  | ms, x :: δ => (if ms.headD false then fz1 x else x) :: viewD ms.tail δ
mutual
def clean : Nat → D → Bool
  | _, .non => true
  | _, .bl _ => true
  | _, .int _ => true
  | _, .str _ => true
  | _, .scr _ => true
  | _, .exn _ _ ds => cleans 0 ds
  | m, .tup ds => cleans m ds
  | 0, .lst _ => false
  | m + 1, .lst ds => cleans m ds
  | 0, .dct _ _ => false
  | m + 1, .dct _ ds => cleans m ds
def cleans : Nat → List D → Bool
  | _, [] => true
  | m, d :: ds => clean m d && cleans m ds
end
def mg1 : Option (Nat × D) → Option (Nat × D) → Option (Option (Nat × D))
  | _, none => some none
  | some (0, d), some (0, _) => some (some (0, d))
  | _, some (0, _) => some none
  | _, some (k + 1, d) => if clean (k + 1) d then some (some (k + 1, d)) else none
def mg2 (a : Option (Option (Nat × D))) (b : Option DL.Env) : Option DL.Env := match a, b with
  | some x, some δ => some (x :: δ)
  | _, _ => none
def mergeD : List Bool → DL.Env → DL.Env → Option DL.Env
  | _, [], [] => some []
  | ms, x :: o, y :: r => mg2 (if ms.headD false then some x else mg1 x y) (mergeD ms.tail o r)
  | _, _, _ => none
section
variable {K : PySem.W.Frag} {H H' : Hp} {N N' : As}
mutual
theorem Rp.clean : ∀ {m : Nat} {d : D} {v : V} {l : As}, clean m d = true → Rp K H N m d v l → Rp K H N' m d v l
  | _, .non, _, _, _, h => by simpa only [Rp] using h
  | _, .bl _, _, _, _, h => by simpa only [Rp] using h
  | _, .int _, _, _, _, h => by simpa only [Rp] using h
  | _, .str _, _, _, _, h => by simpa only [Rp] using h
  | _, .scr _, _, _, _, h => by simpa only [Rp] using h
  | _, .exn c ns ds, _, _, c0, h => by
    simp only [Rp] at h ⊢; obtain ⟨a, d, e, st, el, q⟩ := h
    refine ⟨a, d, e, st, el, ?_⟩
    rcases q with q | ⟨dx, vs, e1, e2, e3, r⟩
    · exact .inl q
    · exact .inr ⟨dx, vs, e1, e2, e3, Rps.clean (by simpa only [DL.clean] using c0) r⟩
  | m, .tup ds, _, _, c, h => by
    simp only [Rp] at h ⊢; obtain ⟨a, vs, e, s, r⟩ := h
    exact ⟨a, vs, e, s, Rps.clean (by simpa only [DL.clean] using c) r⟩
  | 0, .lst ds, _, _, c, _ => by simp only [DL.clean] at c; cases c
  | m + 1, .lst ds, _, _, c, h => by
    simp only [Rp] at h ⊢; obtain ⟨a, vs, l', e, s, el, r⟩ := h
    exact ⟨a, vs, l', e, s, el, Rps.clean (by simpa only [DL.clean] using c) r⟩
  | 0, .dct ks ds, _, _, c, _ => by simp only [DL.clean] at c; cases c
  | m + 1, .dct ks ds, _, _, c, h => by
    simp only [Rp] at h ⊢; obtain ⟨a, vs, l', e, z, s, el, r⟩ := h
    exact ⟨a, vs, l', e, z, s, el, Rps.clean (by simpa only [DL.clean] using c) r⟩
theorem Rps.clean : ∀ {m : Nat} {ds : List D} {vs : List V} {l : As}, cleans m ds = true → Rps K H N m ds vs l → Rps K H N' m ds vs l
  | _, [], _, _, _, h => by simpa only [Rps] using h
  | m, d :: ds, _, _, c, h => by
    simp only [Rps] at h ⊢; obtain ⟨v, vr, l1, l2, e, el, r1, r2⟩ := h
    simp only [cleans, Bool.and_eq_true] at c
    exact ⟨v, vr, l1, l2, e, el, Rp.clean c.1 r1, Rps.clean c.2 r2⟩
end
theorem SRs.view : ∀ (ms : List Bool) {δ : DL.Env} {σ : L2.St} {l : As}, SRs K H N δ σ l → ∃ lv B, l.Perm (lv ++ B) ∧
    (∀ N', (∀ a ∈ N', a ∈ N) → (∀ a ∈ B, a ∉ N') → SRs K H N' (viewD ms δ) σ lv) ∧
    ∀ H' X N'' N3 l' δ' δ'', Kp H H' X → (∀ a ∈ X, a ∈ N) → Nw H N N'' → (∀ a ∈ B, a ∉ X) → SRs K H' N3 δ' σ l' → mergeD ms δ δ' = some δ'' →
      ∃ l'' lx, l''.Perm (lx ++ B) ∧ lx.Sublist l' ∧ SRs K H' N'' δ'' σ l''
  | ms, [], σ, l, h => by
    refine ⟨[], [], by rw [h.2]; exact List.Perm.refl _, fun N' _ _ => ⟨h.1, rfl⟩, fun H' X N'' N3 l' δ' δ'' _ _ _ _ s e => ?_⟩
    cases δ' with
    | nil =>
      have : δ'' = [] := by simpa [mergeD] using e.symm
      subst this
      exact ⟨[], [], List.Perm.refl _, List.nil_sublist _, h.1, rfl⟩
    | cons y r => simp [mergeD] at e
  | ms, none :: δ, σ, l, h => by
    obtain ⟨x, σ', e0, r⟩ := h
    obtain ⟨lv, B, p, vw, mgr⟩ := SRs.view ms.tail r
    refine ⟨lv, B, p, fun N' h1 h2 => ?_, fun H' X N'' N3 l' δ' δ'' k hX w hB s e => ?_⟩
    · have : viewD ms (none :: δ) = none :: viewD ms.tail δ := by simp only [viewD, fz1]; split <;> rfl
      rw [this]
      exact ⟨x, σ', e0, vw N' h1 h2⟩
    · subst e0
      rcases δ' with _ | ⟨y, δr⟩
      · simp [mergeD] at e
      · simp only [mergeD] at e
        cases y with
        | none =>
          obtain ⟨x', σ2, e2, s2⟩ := s
          cases e2
          have e : mg2 (some none) (mergeD ms.tail δ δr) = some δ'' := by
            rw [← e]; congr 1; split <;> rfl
          cases em : mergeD ms.tail δ δr with
          | none => rw [em] at e; cases e
          | some δm =>
            rw [em] at e; cases e
            obtain ⟨l'', lx, q1, q2, q3⟩ := mgr H' X N'' N3 _ _ _ k hX w hB s2 em
            exact ⟨l'', lx, q1, q2, x, σ', rfl, q3⟩
        | some q =>
          obtain ⟨v, σ2, l1', l2', e2, el', rp', s2⟩ := s
          cases e2
          cases em : mergeD ms.tail δ δr with
          | none => rw [em] at e; simp only [mg2] at e; split at e <;> simp_all
          | some δm =>
            obtain ⟨l'', lx, q1, q2, q3⟩ := mgr H' X N'' N3 _ _ _ k hX w hB s2 em
            rw [em] at e
            by_cases hm : ms.headD false = true
            · rw [if_pos hm] at e
              cases e
              exact ⟨l'', lx, q1, q2.trans (by rw [el']; exact List.sublist_append_right _ _), _, σ', rfl, q3⟩
            · rw [if_neg hm] at e
              obtain ⟨m, d⟩ := q
              cases m with
              | zero =>
                cases e
                exact ⟨l'', lx, q1, q2.trans (by rw [el']; exact List.sublist_append_right _ _), _, σ', rfl, q3⟩
              | succ m =>
                simp only [mg1] at e
                by_cases hc : DL.clean (m + 1) d = true
                · rw [if_pos hc] at e
                  cases e
                  refine ⟨l1' ++ l'', l1' ++ lx, ?_, by rw [el']; exact List.Sublist.append (List.Sublist.refl _) q2, v, σ', l1', l'', rfl, rfl, rp'.clean hc, q3⟩
                  rw [List.append_assoc]; exact List.Perm.append_left _ q1
                · rw [if_neg hc] at e; cases e
  | ms, some p0 :: δ, σ, l, h => by
    obtain ⟨v, σ', l1, l2, e0, el, rp, r⟩ := h
    obtain ⟨lv, B, p, vw, mgr⟩ := SRs.view ms.tail r
    subst e0 el
    by_cases hm : ms.headD false = true
    · refine ⟨lv, l1 ++ B, ?_, fun N' h1 h2 => ?_, fun H' X N'' N3 l' δ' δ'' k hX w hB s e => ?_⟩
      · refine (List.Perm.append_left l1 p).trans ?_
        rw [← List.append_assoc, ← List.append_assoc]
        exact List.Perm.append_right B List.perm_append_comm
      · have : viewD ms (some p0 :: δ) = some (0, p0.2) :: viewD ms.tail δ := by simp only [viewD, fz1]; rw [if_pos hm]
        rw [this]
        exact ⟨v, σ', [], lv, rfl, rfl, rp.fz (fun a ha => h2 a (List.mem_append_left _ ha)) h1, vw N' h1 fun a ha => h2 a (List.mem_append_right _ ha)⟩
      · have rp' : Rp K H' N'' p0.1 p0.2 v l1 := rp.step k hX w fun a ha => hB a (List.mem_append_left _ ha)
        rcases δ' with _ | ⟨y, δr⟩
        · simp [mergeD] at e
        · simp only [mergeD] at e
          rw [if_pos hm] at e
          cases em : mergeD ms.tail δ δr with
          | none => rw [em] at e; cases e
          | some δm =>
            rw [em] at e
            cases e
            have : ∃ l3, SRs K H' N3 δr σ' l3 ∧ l3.Sublist l' := by
              cases y with
              | none => obtain ⟨x', σ2, e2, s2⟩ := s; cases e2; exact ⟨l', s2, List.Sublist.refl _⟩
              | some q => obtain ⟨v', σ2, l1', l2', e2, el', rq, s2⟩ := s; cases e2; exact ⟨l2', s2, by rw [el']; exact List.sublist_append_right _ _⟩
            obtain ⟨l3, s2, sb⟩ := this
            obtain ⟨l'', lx, q1, q2, q3⟩ := mgr H' X N'' N3 _ _ _ k hX w (fun a ha => hB a (List.mem_append_right _ ha)) s2 em
            refine ⟨l1 ++ l'', lx, ?_, q2.trans sb, v, σ', l1, l'', rfl, rfl, rp', q3⟩
            refine (List.Perm.append_left l1 q1).trans ?_
            rw [← List.append_assoc, ← List.append_assoc]
            exact List.Perm.append_right B List.perm_append_comm
    · refine ⟨l1 ++ lv, B, ?_, fun N' h1 h2 => ?_, fun H' X N'' N3 l' δ' δ'' k hX w hB s e => ?_⟩
      · rw [List.append_assoc]; exact List.Perm.append_left l1 p
      · have : viewD ms (some p0 :: δ) = some p0 :: viewD ms.tail δ := by simp only [viewD]; rw [if_neg hm]
        rw [this]
        exact ⟨v, σ', l1, lv, rfl, rfl, rp.sub h1, vw N' h1 h2⟩
      · rcases δ' with _ | ⟨y, δr⟩
        · simp [mergeD] at e
        · simp only [mergeD] at e
          rw [if_neg hm] at e
          cases em : mergeD ms.tail δ δr with
          | none => rw [em] at e; simp only [mg2] at e; split at e <;> simp_all
          | some δm =>
            rw [em] at e
            cases y with
            | none =>
              obtain ⟨x', σ2, e2, s2⟩ := s
              cases e2
              obtain ⟨l'', lx, q1, q2, q3⟩ := mgr H' X N'' N3 _ _ _ k hX w hB s2 em
              have : δ'' = none :: δm := by
                have : mg1 (some p0) none = some none := by obtain ⟨m, d⟩ := p0; cases m <;> rfl
                rw [this] at e; cases e; rfl
              subst this
              exact ⟨l'', lx, q1, q2, _, σ', rfl, q3⟩
            | some q =>
              obtain ⟨v', σ2, l1', l2', e2, el', rq, s2⟩ := s
              cases e2
              obtain ⟨l'', lx, q1, q2, q3⟩ := mgr H' X N'' N3 _ _ _ k hX w hB s2 em
              have sb := q2.trans (show l2'.Sublist l' by rw [el']; exact List.sublist_append_right _ _)
              obtain ⟨m, d⟩ := q
              obtain ⟨m0, d0⟩ := p0
              cases m with
              | zero =>
                cases m0 with
                | zero =>
                  cases e
                  have z := rp.zero
                  subst z
                  exact ⟨l'', lx, q1, sb, v, σ', [], l'', rfl, rfl, rp.step k hX w (fun _ z => by cases z), q3⟩
                | succ m0 => cases e; exact ⟨l'', lx, q1, sb, _, σ', rfl, q3⟩
              | succ m =>
                have e' : mg1 (some (m0, d0)) (some (m + 1, d)) = if DL.clean (m + 1) d = true then some (some (m + 1, d)) else none := by cases m0 <;> rfl
                rw [e'] at e
                by_cases hc : DL.clean (m + 1) d = true
                · rw [if_pos hc] at e
                  cases e
                  refine ⟨l1' ++ l'', l1' ++ lx, ?_, by rw [el']; exact List.Sublist.append (List.Sublist.refl _) q2, v, σ', l1', l'', rfl, rfl, rq.clean hc, q3⟩
                  rw [List.append_assoc]; exact List.Perm.append_left _ q1
                · rw [if_neg hc] at e; cases e
theorem SR.view {σ : L2.St} {δ : DL.Env} {L R : As} (s : SR K σ H δ L R) (ms : List Bool) : ∃ Lv, SR K σ H (viewD ms δ) Lv R ∧
    ∀ H' l L' δ' δ'', Kp H H' Lv → Nw H Lv (l ++ L') → SR K σ H' δ' L' (l ++ R) → mergeD ms δ δ' = some δ'' →
      ∃ L'', Kp H H' L ∧ Nw H L (l ++ L'') ∧ SR K σ H' δ'' L'' (l ++ R) := by
  obtain ⟨l0, p0, r⟩ := s.rel
  obtain ⟨lv, B, p, vw, mgr⟩ := SRs.view ms r
  have pL : L.Perm (lv ++ B) := p0.symm.trans p
  have ndv : (lv ++ B ++ R).Nodup := (List.Perm.append_right R pL).nodup_iff.mp s.nd
  have sub1 : ∀ a ∈ lv, a ∈ L := fun a ha => pL.mem_iff.mpr (List.mem_append_left _ ha)
  have sub2 : ∀ a ∈ B, a ∈ L := fun a ha => pL.mem_iff.mpr (List.mem_append_right _ ha)
  have hBv : ∀ a ∈ B, a ∉ lv := fun a ha hv => (List.nodup_append.mp (List.nodup_append.mp ndv).1).2.2 a hv a ha rfl
  have hBR : ∀ a ∈ B, a ∉ R := fun a ha hv => (List.nodup_append.mp ndv).2.2 a (List.mem_append_right _ ha) a hv rfl
  refine ⟨lv, ⟨⟨lv, List.Perm.refl _, vw _ (fun a ha => ?_) fun a ha hv => ?_⟩, ?_, s.tr⟩, fun H' l L' δ' δ'' k w s2 e => ?_⟩
  · exact (List.mem_append.mp ha).elim (fun q => List.mem_append_left _ (sub1 a q)) fun q => List.mem_append_right _ q
  · exact (List.mem_append.mp hv).elim (hBv a ha) (hBR a ha)
  · exact ndv.sublist (List.Sublist.append (List.sublist_append_left _ _) (List.Sublist.refl _))
  · obtain ⟨l2, p2, r2⟩ := s2.rel
    have hne : ∀ a ∈ B, H a ≠ none := fun a ha => (s.own a (sub2 a ha)).ne
    have hBn : ∀ a ∈ B, a ∉ l ++ L' := fun a ha hv => (w a hv).elim (hBv a ha) (hne a ha)
    have key : ∀ N'', Nw H (L ++ R) N'' → ∃ l'' lx, l''.Perm (lx ++ B) ∧ lx.Sublist l2 ∧ SRs K H' N'' δ'' σ l'' := fun N'' w'' =>
      mgr H' lv N'' _ l2 δ' δ'' k (fun a ha => List.mem_append_left _ (sub1 a ha)) w'' hBv r2 e
    have wN : Nw H (L ++ R) ((L' ++ B) ++ (l ++ R)) := fun a ha => by
      rcases List.mem_append.mp ha with ha | ha
      · rcases List.mem_append.mp ha with ha | ha
        · exact (w.right a ha).imp_left fun q => List.mem_append_left _ (sub1 a q)
        · exact .inl (List.mem_append_left _ (sub2 a ha))
      · rcases List.mem_append.mp ha with ha | ha
        · exact (w.left a ha).imp_left fun q => List.mem_append_left _ (sub1 a q)
        · exact .inl (List.mem_append_right _ ha)
    obtain ⟨l'', lx, q1, q2, q3⟩ := key _ wN
    obtain ⟨Lx, u1, u2⟩ := List.exists_perm_sublist q2 p2
    have inL : ∀ a ∈ Lx, a ∈ L' := fun a ha => u2.subset ha
    refine ⟨Lx ++ B, ⟨fun a o e n => k.kp a o e fun z => n (sub1 a z), s.own⟩, ?_, ⟨⟨l'', q1.trans (List.Perm.append_right B u1.symm), q3.sub fun a ha => ?_⟩, ?_, s2.tr⟩⟩
    · refine Nw.both (fun a ha => (w.left a ha).imp_left (sub1 a)) fun a ha => ?_
      rcases List.mem_append.mp ha with ha | ha
      · exact (w.right a (inL a ha)).imp_left (sub1 a)
      · exact .inl (sub2 a ha)
    · rcases List.mem_append.mp ha with ha | ha
      · refine List.mem_append_left _ ((List.mem_append.mp ha).elim (fun q => List.mem_append_left _ (inL a q)) fun q => List.mem_append_right _ q)
      · exact List.mem_append_right _ ha
    · have nd1 : (Lx ++ (l ++ R)).Nodup := s2.nd.sublist (List.Sublist.append u2 (List.Sublist.refl _))
      have ndB : B.Nodup := (List.nodup_append.mp (List.nodup_append.mp ndv).1).2.1
      obtain ⟨n1, n2, n3⟩ := List.nodup_append.mp nd1
      refine List.nodup_append.mpr ⟨List.nodup_append.mpr ⟨n1, ndB, fun a ha b hb e => ?_⟩, n2, fun a ha b hb e => ?_⟩
      · subst e; exact hBn a hb (List.mem_append_right _ (inL a ha))
      · subst e
        rcases List.mem_append.mp ha with ha | ha
        · exact n3 a ha a hb rfl
        · rcases List.mem_append.mp hb with hb | hb
          · exact hBn a ha (List.mem_append_left _ hb)
          · exact hBR a ha hb
end
def vwO (o : Option DL.Env) (m : Nat) (d : D) : Res := match o with
  | some δ => .ok m d δ
  | none => .bad
def vwX (o : Option DL.Env) (x : XD) : Res := match o with
  | some δ => .exc x δ
  | none => .bad
def eView (ms : List Bool) (f : EV) : EV := fun δ => match f (viewD ms δ) with
  | .ok m d δ' => if clean m d then vwO (mergeD ms δ δ') m d else .bad
  | .exc x δ' => if cleans 0 x.ds then vwX (mergeD ms δ δ') x else .bad
  | .bad => .bad
theorem de_view {X : Cx} {W : WX} {e : Expr} {f : EV} (ms : List Bool) (h : DE X W e f) : DE X W e (eView ms f) := by
  obtain ⟨t, p, q⟩ := h.ex
  refine ⟨t, p, fun σ H δ L R Q s ok => ?_⟩
  obtain ⟨Lv, s1, un⟩ := s.view ms
  refine q σ H _ Lv R Q s1 ?_
  unfold eView at ok
  cases hf : f (viewD ms δ) with
  | bad => rw [hf] at ok; exact ok
  | ok m d δ' =>
    rw [hf] at ok
    simp only at ok
    split at ok
    · rename_i hc
      intro v H' l L' k w s2 rp
      cases em : mergeD ms δ δ' with
      | none => rw [em] at ok; exact ok.elim
      | some δ'' =>
        rw [em] at ok
        obtain ⟨L'', k', w', s'⟩ := un H' l L' δ' δ'' k w s2 em
        exact ok v H' l L'' k' w' s' (rp.clean hc)
    · exact ok.elim
  | exc x δ' =>
    rw [hf] at ok
    simp only at ok
    split at ok
    · rename_i hc
      intro c dx H' L' k w s2 xr
      cases em : mergeD ms δ δ' with
      | none => rw [em] at ok; exact ok.elim
      | some δ'' =>
        rw [em] at ok
        obtain ⟨L'', k', w', s'⟩ := un H' [] L' δ' δ'' k w s2 em
        refine ok c dx H' L'' k' w' s' ?_
        obtain ⟨h2, h3⟩ := xr
        refine ⟨h2, ?_⟩
        rcases h3 with h3 | ⟨a, vs, e, ha, hl, r⟩
        · exact .inl h3
        · exact .inr ⟨a, vs, e, ha, hl, r.clean hc⟩
    · exact ok.elim
def gListR : D → Option (Nat × D)
  | .int n => if inW n ∧ n ≤ 16777216 then some (1, .lst (rangeD 0 n.toNat)) else none
  | _ => none
theorem rps_range {K : PySem.W.Frag} {H : Hp} {N : As} (lo : Int) (n : Nat) : Rps K H N 0 (rangeD lo n) ((List.range n).map fun i => V.int (lo + (i : Nat))) [] := by
  have := Rps.ofInts (K := K) (H := H) (N := N) ((List.range n).map fun (i : Nat) => lo + (i : Int))
  rw [List.map_map, List.map_map] at this
  exact this
theorem opf_listR {K : PySem.W.Frag} : OpF1 K (fun v H Q => ∃ n, v = .int n ∧ RgOk 0 n ∧ ∀ q, H q = none → Q (.ref q) (upd H q (.lst (rgV 0 n)))) gListR := by
  intro H B d v Q h ok
  unfold gListR at ok
  split at ok
  · split at ok
    · rename_i n hc
      obtain ⟨z1, z2⟩ := inW_of hc.1
      rw [h.int]
      refine ⟨_, rfl, ⟨by omega, by omega, z1, z2, by omega⟩, fun q hq => ?_⟩
      have r := rps_range (K := K) (H := H) (N := B) 0 n.toNat
      have e : rgV 0 n = (List.range n.toNat).map fun i => V.int (0 + (i : Nat)) := by unfold rgV; rw [Int.sub_zero]
      rw [e]
      exact ok.lst r q hq
    · exact ok.elim
  · exact ok.elim
theorem d_listR {X : Cx} {W : WX} {e : Expr} {f : EV} {p pos p2 pos2 : Pos} (hc : X.calm = true) (hm : X.mg "list" = none) (hg : Gl X "list") (hr : X.mg "range" = none) (hgr : Gl X "range") (h : DE X W e f)
    (na : starEach [e] X.env = (false, eval e X.env) :: starEach [] X.env := by rfl) (na2 : starEach [.Call (.Name "range" p2) [e] [] pos2] X.env = (false, eval (.Call (.Name "range" p2) [e] [] pos2) X.env) :: starEach [] X.env := by rfl) :
    DE X W (.Call (.Name "list" p) [.Call (.Name "range" p2) [e] [] pos2] [] pos) (e1 gListR f) :=
  de_1 (fun t ht => pe_listRg hc hg hm (prg_1 hgr hr ht na) na2) opf_listR h
section
variable {f : EV} {δ δ' : DL.Env} {m n k : Nat} {d e : D} {ms : List Bool} {x y : Option (Nat × D)} {xd : XD} {ds : List D}
def Res.kview (r : Res) (ms : List Bool) (δ : DL.Env) : Res := match r with
  | .ok m d δ' => cond (clean m d) (vwO (mergeD ms δ δ') m d) .bad
  | .exc x δ' => cond (cleans 0 x.ds) (vwX (mergeD ms δ δ') x) .bad
  | .bad => .bad
theorem eView_k : eView ms f δ = (f (viewD ms δ)).kview ms δ := by
  unfold eView Res.kview
  cases f (viewD ms δ) with
  | bad => rfl
  | ok m d δ' => simp only; cases clean m d <;> rfl
  | exc x δ' => simp only; cases cleans 0 x.ds <;> rfl
theorem kview_ok (h : clean m d = true) : (Res.ok m d δ').kview ms δ = vwO (mergeD ms δ δ') m d := by
  show cond (clean m d) _ _ = _
  rw [h]; rfl
theorem kview_exc (h : cleans 0 xd.ds = true) : (Res.exc xd δ').kview ms δ = vwX (mergeD ms δ δ') xd := by
  show cond (cleans 0 xd.ds) _ _ = _
  rw [h]; rfl
theorem vwO_k : vwO (some δ) m d = .ok m d δ := Eq.trans rfl rfl
theorem vwX_k : vwX (some δ) xd = .exc xd δ := Eq.trans rfl rfl
theorem view_nil : viewD ms [] = [] := by cases ms <;> rfl
theorem view_t : viewD (true :: ms) (x :: δ) = fz1 x :: viewD ms δ := Eq.trans rfl rfl
theorem view_f : viewD (false :: ms) (x :: δ) = x :: viewD ms δ := Eq.trans rfl rfl
theorem fz1_some : fz1 (some (m, d)) = some (0, d) := Eq.trans rfl rfl
theorem fz1_none : fz1 none = none := Eq.trans rfl rfl
theorem merge_nil : mergeD ms [] [] = some [] := by cases ms <;> rfl
theorem merge_t : mergeD (true :: ms) (x :: δ) (y :: δ') = mg2 (some x) (mergeD ms δ δ') := Eq.trans rfl rfl
theorem merge_f : mergeD (false :: ms) (x :: δ) (y :: δ') = mg2 (mg1 x y) (mergeD ms δ δ') := Eq.trans rfl rfl
theorem mg2_k : mg2 (some x) (some δ) = some (x :: δ) := Eq.trans rfl rfl
theorem mg1_none : mg1 x none = some none := by cases x with
  | none => rfl
  | some p => obtain ⟨m, d⟩ := p; cases m <;> rfl
theorem mg1_z : mg1 (some (0, d)) (some (0, e)) = some (some (0, d)) := Eq.trans rfl rfl
theorem mg1_s (h : clean (k + 1) d = true) : mg1 x (some (k + 1, d)) = some (some (k + 1, d)) := by
  cases x with
  | none => exact if_pos h
  | some p => obtain ⟨m, d⟩ := p; cases m <;> exact if_pos h
theorem mg1_n : mg1 none (some (0, e)) = some none := Eq.trans rfl rfl
theorem mg1_d : mg1 (some (k + 1, d)) (some (0, e)) = some none := Eq.trans rfl rfl
theorem mg1_o (x : Option (Nat × D)) (h : ∀ k d, x = some (k + 1, d) → clean (k + 1) d = true) : mg1 x x = some x := by
  cases x with
  | none => rfl
  | some p =>
    obtain ⟨m, d⟩ := p
    cases m with
    | zero => rfl
    | succ m => exact mg1_s (h m d rfl)
theorem clean_int {i : Int} : clean m (.int i) = true := by cases m <;> rfl
theorem clean_bl {b : Bool} : clean m (.bl b) = true := by cases m <;> rfl
theorem clean_non : clean m .non = true := by cases m <;> rfl
theorem clean_str {s : Str} : clean m (.str s) = true := by cases m <;> rfl
theorem clean_tup : clean m (.tup ds) = cleans m ds := by cases m <;> rfl
theorem clean_lst : clean (m + 1) (.lst ds) = cleans m ds := Eq.trans rfl rfl
theorem cleans_nil : cleans m [] = true := Eq.trans rfl rfl
theorem cleans_cons : cleans m (d :: ds) = (clean m d && cleans m ds) := Eq.trans rfl rfl
theorem cleans_ints : ∀ (ns : List Int), cleans m (ns.map .int) = true
  | [] => rfl
  | n :: ns => by rw [List.map_cons, cleans_cons, clean_int, cleans_ints ns]; rfl
theorem cleans_app : ∀ {xs ys : List D}, cleans m (xs ++ ys) = (cleans m xs && cleans m ys)
  | [], ys => by rw [List.nil_append, cleans_nil, Bool.true_and]
  | x :: xs, ys => by rw [List.cons_append, cleans_cons, cleans_cons, cleans_app (xs := xs) (ys := ys), Bool.and_assoc]
def putO (ds : List D) (n : Nat) (o : Option D) (p : List Nat) (e : D) : D := match o with
  | some d => .tup (ds.set n (D.put d p e))
  | none => .tup ds
theorem put_tup {p : List Nat} : D.put (.tup ds) (n :: p) e = putO ds n ds[n]? p e := by
  show (match ds[n]? with | some d => D.tup (ds.set n (D.put d p e)) | none => .tup ds) = _
  unfold putO
  cases ds[n]? <;> rfl
theorem putO_k {p : List Nat} : putO ds n (some d) p e = .tup (ds.set n (D.put d p e)) := Eq.trans rfl rfl
theorem gListR_k {n : Int} (h : inW n = true) (h' : n ≤ 16777216) : gListR (.int n) = some (1, .lst (rangeD 0 n.toNat)) := if_pos ⟨h, h'⟩
end
end DL
namespace DL
open PySem PySem.Spec L2
open PyProof.Rows hiding St
def mgS (fx : Bool) (x y : Option (Nat × D)) : Option (Nat × D) := match y with
  | none => none
  | some (m, d) => if clean m d then some (m, d) else (match fx, x, m with
    | true, some (0, d0), 0 => some (0, d0)
    | _, _, _ => none)
def mergeS : List Bool → List Bool → DL.Env → DL.Env → Option DL.Env
  | _, _, [], [] => some []
  | ms, fs, x :: o, y :: r => mg2 (if ms.headD false then (if fs.headD false then some x else none) else some (mgS (fs.headD false) x y)) (mergeS ms.tail fs.tail o r)
  | _, _, _, _ => none
def FixB : List Bool → L2.St → L2.St → Prop
  | fs, x :: σ, y :: σ' => (fs.headD false = true → y = x) ∧ FixB fs.tail σ σ'
  | _, _, _ => True
section
variable {K : PySem.W.Frag} {H H' : Hp} {N N' : As}
theorem SRs.head {y : Option (Nat × D)} {δr : DL.Env} {σ' : L2.St} {l' : As} (s : SRs K H N (y :: δr) σ' l') : ∃ v0 σr l3, σ' = v0 :: σr ∧ SRs K H N δr σr l3 ∧ l3.Sublist l' ∧
    ∀ m d, y = some (m, d) → ∃ v l1, v0 = some v ∧ l' = l1 ++ l3 ∧ Rp K H N m d v l1 := by
  cases y with
  | none => obtain ⟨x, σr, e, r⟩ := s; exact ⟨x, σr, l', e, r, List.Sublist.refl _, fun m d e => by cases e⟩
  | some q =>
    obtain ⟨v, σr, l1, l2, e, el, rp, r⟩ := s
    exact ⟨some v, σr, l2, e, r, by rw [el]; exact List.sublist_append_right _ _, fun m d e => by cases e; exact ⟨v, l1, rfl, el, rp⟩⟩
theorem mg2_of {a : Option (Option (Nat × D))} {b : Option DL.Env} {δ : DL.Env} (h : mg2 a b = some δ) : ∃ x δ', a = some x ∧ b = some δ' ∧ δ = x :: δ' := by
  cases a with
  | none => cases h
  | some x => cases b with
    | none => cases h
    | some δ' => exact ⟨x, δ', rfl, rfl, by cases h; rfl⟩
theorem slotS {fx : Bool} {x y : Option (Nat × D)} {X l' l3 l4 lx B : As} {v0 x0 : Option V} {σr : L2.St} {δm : DL.Env} {N3 N'' : As} (k : Kp H H' X) (hX : ∀ a ∈ X, a ∈ N) (w : Nw H N N'')
    (hy : ∀ m d, y = some (m, d) → ∃ v l1, v0 = some v ∧ l' = l1 ++ l3 ∧ Rp K H' N3 m d v l1) (hs : l3.Sublist l')
    (hx : ∀ d, x = some (0, d) → ∃ v, x0 = some v ∧ Rp K H N 0 d v []) (hf : fx = true → v0 = x0)
    (q1 : l4.Perm (lx ++ B)) (q2 : lx.Sublist l3) (q3 : SRs K H' N'' δm σr l4) :
    ∃ l'' lx', l''.Perm (lx' ++ B) ∧ lx'.Sublist l' ∧ SRs K H' N'' (mgS fx x y :: δm) (v0 :: σr) l'' := by
  cases y with
  | none => exact ⟨l4, lx, q1, q2.trans hs, v0, σr, rfl, q3⟩
  | some q =>
    obtain ⟨m, d⟩ := q
    obtain ⟨v, l1, e0, el, rp⟩ := hy m d rfl
    by_cases hc : DL.clean m d = true
    · have : mgS fx x (some (m, d)) = some (m, d) := by unfold mgS; simp only; rw [if_pos hc]
      rw [this]
      refine ⟨l1 ++ l4, l1 ++ lx, ?_, by rw [el]; exact List.Sublist.append (List.Sublist.refl _) q2, v, σr, l1, l4, by rw [e0], rfl, rp.clean hc, q3⟩
      rw [List.append_assoc]; exact List.Perm.append_left _ q1
    · by_cases hz : fx = true ∧ m = 0 ∧ ∃ d0, x = some (0, d0)
      · obtain ⟨rfl, rfl, d0, rfl⟩ := hz
        have : mgS true (some (0, d0)) (some (0, d)) = some (0, d0) := by unfold mgS; simp only; rw [if_neg hc]
        rw [this]
        obtain ⟨u, e1, ru⟩ := hx d0 rfl
        exact ⟨l4, lx, q1, q2.trans hs, u, σr, [], l4, by rw [hf rfl, e1], rfl, ru.step k hX w (fun _ z => by cases z), q3⟩
      · have : mgS fx x (some (m, d)) = none := by
          unfold mgS; simp only; rw [if_neg hc]
          split
          · exact absurd ⟨rfl, rfl, _, rfl⟩ hz
          · rfl
        rw [this]
        exact ⟨l4, lx, q1, q2.trans hs, v0, σr, rfl, q3⟩
theorem SRs.viewS : ∀ (ms fs : List Bool) {δ : DL.Env} {σ : L2.St} {l : As}, SRs K H N δ σ l → ∃ lv B, l.Perm (lv ++ B) ∧
    (∀ N', (∀ a ∈ N', a ∈ N) → (∀ a ∈ B, a ∉ N') → SRs K H N' (viewD ms δ) σ lv) ∧
    ∀ H' X N'' N3 σ' l' δ' δ'', Kp H H' X → (∀ a ∈ X, a ∈ N) → Nw H N N'' → (∀ a ∈ B, a ∉ X) → SRs K H' N3 δ' σ' l' → FixB fs σ σ' → mergeS ms fs δ δ' = some δ'' →
      ∃ l'' lx, l''.Perm (lx ++ B) ∧ lx.Sublist l' ∧ SRs K H' N'' δ'' σ' l''
  | ms, fs, [], σ, l, h => by
    refine ⟨[], [], by rw [h.2]; exact List.Perm.refl _, fun N' _ _ => ⟨h.1, rfl⟩, fun H' X N'' N3 σ' l' δ' δ'' _ _ _ _ s _ e => ?_⟩
    cases δ' with
    | nil =>
      have : δ'' = [] := by simpa [mergeS] using e.symm
      subst this
      exact ⟨[], [], List.Perm.refl _, List.nil_sublist _, s.1, rfl⟩
    | cons y r => simp [mergeS] at e
  | ms, fs, none :: δ, σ, l, h => by
    obtain ⟨x, σ0, e0, r⟩ := h
    obtain ⟨lv, B, p, vw, mgr⟩ := SRs.viewS ms.tail fs.tail r
    subst e0
    refine ⟨lv, B, p, fun N' h1 h2 => ?_, fun H' X N'' N3 σ' l' δ' δ'' k hX w hB s fx e => ?_⟩
    · have : viewD ms (none :: δ) = none :: viewD ms.tail δ := by simp only [viewD, fz1]; split <;> rfl
      rw [this]
      exact ⟨x, σ0, rfl, vw N' h1 h2⟩
    · rcases δ' with _ | ⟨y, δr⟩
      · simp [mergeS] at e
      · simp only [mergeS] at e
        obtain ⟨z, δm, ez, em, rfl⟩ := mg2_of e
        obtain ⟨v0, σr, l3, rfl, s2, sb, hy⟩ := SRs.head s
        obtain ⟨l4, lx, q1, q2, q3⟩ := mgr H' X N'' N3 _ _ _ _ k hX w hB s2 fx.2 em
        by_cases hm : ms.headD false = true
        · rw [if_pos hm] at ez
          split at ez
          · cases ez
            exact ⟨l4, lx, q1, q2.trans sb, v0, σr, rfl, q3⟩
          · cases ez
        · rw [if_neg hm] at ez
          cases ez
          exact slotS (x0 := x) k hX w hy sb (fun d e => by cases e) fx.1 q1 q2 q3
  | ms, fs, some p0 :: δ, σ, l, h => by
    obtain ⟨v, σ0, l1, l2, e0, el, rp, r⟩ := h
    obtain ⟨lv, B, p, vw, mgr⟩ := SRs.viewS ms.tail fs.tail r
    subst e0 el
    by_cases hm : ms.headD false = true
    · refine ⟨lv, l1 ++ B, ?_, fun N' h1 h2 => ?_, fun H' X N'' N3 σ' l' δ' δ'' k hX w hB s fx e => ?_⟩
      · refine (List.Perm.append_left l1 p).trans ?_
        rw [← List.append_assoc, ← List.append_assoc]
        exact List.Perm.append_right B List.perm_append_comm
      · have : viewD ms (some p0 :: δ) = some (0, p0.2) :: viewD ms.tail δ := by simp only [viewD, fz1]; rw [if_pos hm]
        rw [this]
        exact ⟨v, σ0, [], lv, rfl, rfl, rp.fz (fun a ha => h2 a (List.mem_append_left _ ha)) h1, vw N' h1 fun a ha => h2 a (List.mem_append_right _ ha)⟩
      · have rp' : Rp K H' N'' p0.1 p0.2 v l1 := rp.step k hX w fun a ha => hB a (List.mem_append_left _ ha)
        rcases δ' with _ | ⟨y, δr⟩
        · simp [mergeS] at e
        · simp only [mergeS] at e
          obtain ⟨z, δm, ez, em, rfl⟩ := mg2_of e
          obtain ⟨v0, σr, l3, rfl, s2, sb, hy⟩ := SRs.head s
          obtain ⟨l4, lx, q1, q2, q3⟩ := mgr H' X N'' N3 _ _ _ _ k hX w (fun a ha => hB a (List.mem_append_right _ ha)) s2 fx.2 em
          rw [if_pos hm] at ez
          split at ez
          · rename_i hf
            cases ez
            refine ⟨l1 ++ l4, lx, ?_, q2.trans sb, v, σr, l1, l4, by rw [fx.1 hf], rfl, rp', q3⟩
            refine (List.Perm.append_left l1 q1).trans ?_
            rw [← List.append_assoc, ← List.append_assoc]
            exact List.Perm.append_right B List.perm_append_comm
          · cases ez
    · refine ⟨l1 ++ lv, B, ?_, fun N' h1 h2 => ?_, fun H' X N'' N3 σ' l' δ' δ'' k hX w hB s fx e => ?_⟩
      · rw [List.append_assoc]; exact List.Perm.append_left l1 p
      · have : viewD ms (some p0 :: δ) = some p0 :: viewD ms.tail δ := by simp only [viewD]; rw [if_neg hm]
        rw [this]
        exact ⟨v, σ0, l1, lv, rfl, rfl, rp.sub h1, vw N' h1 h2⟩
      · rcases δ' with _ | ⟨y, δr⟩
        · simp [mergeS] at e
        · simp only [mergeS] at e
          obtain ⟨z, δm, ez, em, rfl⟩ := mg2_of e
          obtain ⟨v0, σr, l3, rfl, s2, sb, hy⟩ := SRs.head s
          obtain ⟨l4, lx, q1, q2, q3⟩ := mgr H' X N'' N3 _ _ _ _ k hX w hB s2 fx.2 em
          rw [if_neg hm] at ez
          cases ez
          refine slotS (x0 := some v) k hX w hy sb (fun d e => ?_) fx.1 q1 q2 q3
          cases e
          have z := rp.zero
          subst z
          exact ⟨v, rfl, rp⟩
theorem SR.viewS {σ : L2.St} {δ : DL.Env} {L R : As} (s : SR K σ H δ L R) (ms fs : List Bool) : ∃ Lv, SR K σ H (viewD ms δ) Lv R ∧
    ∀ H' l L' σ' δ' δ'', Kp H H' Lv → Nw H Lv (l ++ L') → SR K σ' H' δ' L' (l ++ R) → FixB fs σ σ' → mergeS ms fs δ δ' = some δ'' →
      ∃ L'', Kp H H' L ∧ Nw H L (l ++ L'') ∧ SR K σ' H' δ'' L'' (l ++ R) := by
  obtain ⟨l0, p0, r⟩ := s.rel
  obtain ⟨lv, B, p, vw, mgr⟩ := SRs.viewS ms fs r
  have pL : L.Perm (lv ++ B) := p0.symm.trans p
  have ndv : (lv ++ B ++ R).Nodup := (List.Perm.append_right R pL).nodup_iff.mp s.nd
  have sub1 : ∀ a ∈ lv, a ∈ L := fun a ha => pL.mem_iff.mpr (List.mem_append_left _ ha)
  have sub2 : ∀ a ∈ B, a ∈ L := fun a ha => pL.mem_iff.mpr (List.mem_append_right _ ha)
  have hBv : ∀ a ∈ B, a ∉ lv := fun a ha hv => (List.nodup_append.mp (List.nodup_append.mp ndv).1).2.2 a hv a ha rfl
  have hBR : ∀ a ∈ B, a ∉ R := fun a ha hv => (List.nodup_append.mp ndv).2.2 a (List.mem_append_right _ ha) a hv rfl
  refine ⟨lv, ⟨⟨lv, List.Perm.refl _, vw _ (fun a ha => ?_) fun a ha hv => ?_⟩, ?_, s.tr⟩, fun H' l L' σ' δ' δ'' k w s2 fx e => ?_⟩
  · exact (List.mem_append.mp ha).elim (fun q => List.mem_append_left _ (sub1 a q)) fun q => List.mem_append_right _ q
  · exact (List.mem_append.mp hv).elim (hBv a ha) (hBR a ha)
  · exact ndv.sublist (List.Sublist.append (List.sublist_append_left _ _) (List.Sublist.refl _))
  · obtain ⟨l2, p2, r2⟩ := s2.rel
    have hne : ∀ a ∈ B, H a ≠ none := fun a ha => (s.own a (sub2 a ha)).ne
    have hBn : ∀ a ∈ B, a ∉ l ++ L' := fun a ha hv => (w a hv).elim (hBv a ha) (hne a ha)
    have wN : Nw H (L ++ R) ((L' ++ B) ++ (l ++ R)) := fun a ha => by
      rcases List.mem_append.mp ha with ha | ha
      · rcases List.mem_append.mp ha with ha | ha
        · exact (w.right a ha).imp_left fun q => List.mem_append_left _ (sub1 a q)
        · exact .inl (List.mem_append_left _ (sub2 a ha))
      · rcases List.mem_append.mp ha with ha | ha
        · exact (w.left a ha).imp_left fun q => List.mem_append_left _ (sub1 a q)
        · exact .inl (List.mem_append_right _ ha)
    obtain ⟨l'', lx, q1, q2, q3⟩ := mgr H' lv _ _ σ' l2 δ' δ'' k (fun a ha => List.mem_append_left _ (sub1 a ha)) wN hBv r2 fx e
    obtain ⟨Lx, u1, u2⟩ := List.exists_perm_sublist q2 p2
    have inL : ∀ a ∈ Lx, a ∈ L' := fun a ha => u2.subset ha
    refine ⟨Lx ++ B, ⟨fun a o e n => k.kp a o e fun z => n (sub1 a z), s.own⟩, ?_, ⟨⟨l'', q1.trans (List.Perm.append_right B u1.symm), q3.sub fun a ha => ?_⟩, ?_, s2.tr⟩⟩
    · refine Nw.both (fun a ha => (w.left a ha).imp_left (sub1 a)) fun a ha => ?_
      rcases List.mem_append.mp ha with ha | ha
      · exact (w.right a (inL a ha)).imp_left (sub1 a)
      · exact .inl (sub2 a ha)
    · rcases List.mem_append.mp ha with ha | ha
      · refine List.mem_append_left _ ((List.mem_append.mp ha).elim (fun q => List.mem_append_left _ (inL a q)) fun q => List.mem_append_right _ q)
      · exact List.mem_append_right _ ha
    · have nd1 : (Lx ++ (l ++ R)).Nodup := s2.nd.sublist (List.Sublist.append u2 (List.Sublist.refl _))
      have ndB : B.Nodup := (List.nodup_append.mp (List.nodup_append.mp ndv).1).2.1
      obtain ⟨n1, n2, n3⟩ := List.nodup_append.mp nd1
      refine List.nodup_append.mpr ⟨List.nodup_append.mpr ⟨n1, ndB, fun a ha b hb e => ?_⟩, n2, fun a ha b hb e => ?_⟩
      · subst e; exact hBn a hb (List.mem_append_right _ (inL a ha))
      · subst e
        rcases List.mem_append.mp ha with ha | ha
        · exact n3 a ha a hb rfl
        · rcases List.mem_append.mp hb with hb | hb
          · exact hBn a ha (List.mem_append_left _ hb)
          · exact hBR a ha hb
end
def idxB : Nat → List Bool → List Nat
  | _, [] => []
  | n, b :: fs => if b then n :: idxB (n + 1) fs else idxB (n + 1) fs
theorem idxB_mem : ∀ (fs : List Bool) (n i : Nat), fs[i]? = some true → n + i ∈ idxB n fs
  | [], n, i, h => by simp at h
  | b :: fs, n, 0, h => by
    have : b = true := by simpa using h
    subst this; simp [idxB]
  | b :: fs, n, i + 1, h => by
    have := idxB_mem fs (n + 1) i (by simpa using h)
    have e : n + (i + 1) = n + 1 + i := by omega
    rw [e]; unfold idxB
    split
    · exact List.mem_cons_of_mem _ this
    · exact this
theorem fixB_of : ∀ (fs : List Bool) (σ σ' : L2.St), (∀ i : Nat, fs[i]? = some true → σ'[i]? = σ[i]?) → FixB fs σ σ'
  | _, [], [], _ => by simp [FixB]
  | _, [], _ :: _, _ => by simp [FixB]
  | _, _ :: _, [], _ => by simp [FixB]
  | [], x :: σ, y :: σ', h => ⟨(fun e => by cases e), fixB_of [] σ σ' fun i e => by simp at e⟩
  | b :: fs, x :: σ, y :: σ', h => ⟨fun e => by
      have : b = true := e
      subst this
      have := h 0 rfl
      simpa using this, fixB_of fs σ σ' fun i e => by simpa using h (i + 1) (by simpa using e)⟩
def vsN (o : Option DL.Env) (g : DL.Env → SRes) : SRes := match o with
  | some δ => g δ
  | none => .bad
def SRes.kvs (r : SRes) (ms fs : List Bool) (δ : DL.Env) : SRes := match r with
  | .nx δ' => vsN (mergeS ms fs δ δ') .nx
  | .brk δ' => vsN (mergeS ms fs δ δ') .brk
  | .cnt δ' => vsN (mergeS ms fs δ δ') .cnt
  | .ret m d δ' => cond (clean m d) (vsN (mergeS ms fs δ δ') (.ret m d)) .bad
  | .exc x δ' => cond (cleans 0 x.ds) (vsN (mergeS ms fs δ δ') (.exc x)) .bad
  | .bad => .bad
def sView (ms fs : List Bool) (f : SV) : SV := fun δ => (f (viewD ms δ)).kvs ms fs δ
theorem ds_view {X : Cx} {W : WX} {F : List Nat} {st : Stmt} {f : SV} (ms fs : List Bool) (h : DS X W (F ++ idxB 0 fs) st f) : DS X W F st (sView ms fs f) := by
  obtain ⟨t, p, q⟩ := h.ex
  refine ⟨t, p, fun σ H δ L R D s ok => ?_⟩
  obtain ⟨Lv, s1, un⟩ := s.viewS ms fs
  refine q σ H _ Lv R D s1 ?_
  have fxb : ∀ {σ' : L2.St}, Fix (F ++ idxB 0 fs) σ σ' → FixB fs σ σ' := fun {σ'} fx => fixB_of fs σ σ' fun i hi => fx i (List.mem_append_right _ (by have := idxB_mem fs 0 i hi; simpa using this))
  have fxF : ∀ {σ' : L2.St}, Fix (F ++ idxB 0 fs) σ σ' → Fix F σ σ' := fun {σ'} fx i hi => fx i (List.mem_append_left _ hi)
  have nok : ∀ {Q : L2.St → Hp → Prop} {δ' : DL.Env}, (∀ δ'', mergeS ms fs δ δ' = some δ'' → NOk X F σ H L R Q δ'') → (mergeS ms fs δ δ' ≠ none) → NOk X (F ++ idxB 0 fs) σ H Lv R Q δ' := by
    intro Q δ' h hn σ' H' L' k w s2 fx
    cases em : mergeS ms fs δ δ' with
    | none => exact absurd em hn
    | some δ'' =>
      obtain ⟨L'', k', w', s'⟩ := un H' [] L' σ' δ' δ'' k w s2 (fxb fx) em
      exact h δ'' em σ' H' L'' k' w' s' (fxF fx)
  unfold sView at ok
  cases hf : f (viewD ms δ) with
  | bad => rw [hf] at ok; exact ok
  | nx δ' =>
    rw [hf] at ok
    simp only [SRes.kvs] at ok
    refine nok (fun δ'' em => ?_) fun em => ?_
    · rw [em] at ok; exact ok
    · rw [em] at ok; exact ok
  | brk δ' =>
    rw [hf] at ok
    simp only [SRes.kvs] at ok
    refine nok (fun δ'' em => ?_) fun em => ?_
    · rw [em] at ok; exact ok
    · rw [em] at ok; exact ok
  | cnt δ' =>
    rw [hf] at ok
    simp only [SRes.kvs] at ok
    refine nok (fun δ'' em => ?_) fun em => ?_
    · rw [em] at ok; exact ok
    · rw [em] at ok; exact ok
  | ret m d δ' =>
    rw [hf] at ok
    simp only [SRes.kvs] at ok
    cases hc : clean m d with
    | false => rw [hc] at ok; exact ok.elim
    | true =>
      rw [hc] at ok
      simp only [cond_true] at ok
      intro v σ' H' l L' k w s2 fx rp
      cases em : mergeS ms fs δ δ' with
      | none => rw [em] at ok; exact ok.elim
      | some δ'' =>
        rw [em] at ok
        obtain ⟨L'', k', w', s'⟩ := un H' l L' σ' δ' δ'' k w s2 (fxb fx) em
        exact ok v σ' H' l L'' k' w' s' (fxF fx) (rp.clean hc)
  | exc x δ' =>
    rw [hf] at ok
    simp only [SRes.kvs] at ok
    cases hc : cleans 0 x.ds with
    | false => rw [hc] at ok; exact ok.elim
    | true =>
      rw [hc] at ok
      simp only [cond_true] at ok
      intro c dx σ' H' L' k w s2 fx xr
      cases em : mergeS ms fs δ δ' with
      | none => rw [em] at ok; exact ok.elim
      | some δ'' =>
        rw [em] at ok
        obtain ⟨L'', k', w', s'⟩ := un H' [] L' σ' δ' δ'' k w s2 (fxb fx) em
        refine ok c dx σ' H' L'' k' w' s' (fxF fx) ?_
        obtain ⟨h2, h3⟩ := xr
        refine ⟨h2, ?_⟩
        rcases h3 with h3 | ⟨a, vs, e, ha, hl, r⟩
        · exact .inl h3
        · exact .inr ⟨a, vs, e, ha, hl, r.clean hc⟩
def vwT (o : Option DL.Env) (b : Bool) : TRes := match o with
  | some δ => .ok b δ
  | none => .bad
def vwTX (o : Option DL.Env) (x : XD) : TRes := match o with
  | some δ => .exc x δ
  | none => .bad
def TRes.ktv (r : TRes) (ms : List Bool) (δ : DL.Env) : TRes := match r with
  | .ok b δ' => vwT (mergeD ms δ δ') b
  | .exc x δ' => cond (cleans 0 x.ds) (vwTX (mergeD ms δ δ') x) .bad
  | .bad => .bad
def tView (ms : List Bool) (t : DL.Env → TRes) : DL.Env → TRes := fun δ => (t (viewD ms δ)).ktv ms δ
theorem dt_view {X : Cx} {W : WX} {e : Expr} {f : DL.Env → TRes} (ms : List Bool) (h : DT X W e f) : DT X W e (tView ms f) := by
  obtain ⟨t, p, q⟩ := h.ex
  refine ⟨t, p, fun σ H δ L R Q s ok => ?_⟩
  obtain ⟨Lv, s1, un⟩ := s.view ms
  refine q σ H _ Lv R Q s1 ?_
  unfold tView at ok
  cases hf : f (viewD ms δ) with
  | bad => rw [hf] at ok; exact ok
  | ok b δ' =>
    rw [hf] at ok
    simp only [TRes.ktv] at ok
    intro H' L' k w s2
    cases em : mergeD ms δ δ' with
    | none => rw [em] at ok; exact ok.elim
    | some δ'' =>
      rw [em] at ok
      obtain ⟨L'', k', w', s'⟩ := un H' [] L' δ' δ'' k w s2 em
      exact ok H' L'' k' w' s'
  | exc x δ' =>
    rw [hf] at ok
    simp only [TRes.ktv] at ok
    cases hc : cleans 0 x.ds with
    | false => rw [hc] at ok; exact ok.elim
    | true =>
      rw [hc] at ok
      simp only [cond_true] at ok
      intro c dx H' L' k w s2 xr
      cases em : mergeD ms δ δ' with
      | none => rw [em] at ok; exact ok.elim
      | some δ'' =>
        rw [em] at ok
        obtain ⟨L'', k', w', s'⟩ := un H' [] L' δ' δ'' k w s2 em
        refine ok c dx H' L'' k' w' s' ?_
        obtain ⟨h2, h3⟩ := xr
        refine ⟨h2, ?_⟩
        rcases h3 with h3 | ⟨a, vs, e, ha, hl, r⟩
        · exact .inl h3
        · exact .inr ⟨a, vs, e, ha, hl, r.clean hc⟩
section
theorem tView_k {ms : List Bool} {t : DL.Env → TRes} {δ : DL.Env} : tView ms t δ = (t (viewD ms δ)).ktv ms δ := Eq.trans rfl rfl
theorem ktv_ok {ms : List Bool} {b : Bool} {δ δ' : DL.Env} : (TRes.ok b δ').ktv ms δ = vwT (mergeD ms δ δ') b := Eq.trans rfl rfl
theorem vwT_k {b : Bool} {δ : DL.Env} : vwT (some δ) b = .ok b δ := Eq.trans rfl rfl
variable {f : SV} {δ δ' : DL.Env} {m k : Nat} {d e : D} {ms fs : List Bool} {x y : Option (Nat × D)} {g : DL.Env → SRes} {fx : Bool}
theorem sView_k : sView ms fs f δ = (f (viewD ms δ)).kvs ms fs δ := Eq.trans rfl rfl
theorem kvs_nx : (SRes.nx δ').kvs ms fs δ = vsN (mergeS ms fs δ δ') .nx := Eq.trans rfl rfl
theorem kvs_ret (h : clean m d = true) : (SRes.ret m d δ').kvs ms fs δ = vsN (mergeS ms fs δ δ') (.ret m d) := by
  show cond (clean m d) _ _ = _
  rw [h]; rfl
theorem vsN_k : vsN (some δ) g = g δ := Eq.trans rfl rfl
theorem mergeS_nil : mergeS ms fs [] [] = some [] := by cases ms <;> rfl
theorem mergeS_t : mergeS (true :: ms) (true :: fs) (x :: δ) (y :: δ') = mg2 (some x) (mergeS ms fs δ δ') := Eq.trans rfl rfl
theorem mergeS_f : mergeS (false :: ms) (fx :: fs) (x :: δ) (y :: δ') = mg2 (some (mgS fx x y)) (mergeS ms fs δ δ') := Eq.trans rfl rfl
theorem mgS_none : mgS fx x none = none := Eq.trans rfl rfl
theorem mgS_c (h : clean m d = true) : mgS fx x (some (m, d)) = some (m, d) := by unfold mgS; simp only; rw [if_pos h]
theorem mgS_z : mgS true (some (0, d)) (some (0, d)) = some (0, d) := by unfold mgS; simp only; split <;> rfl
end
end DL
namespace DL
open PySem PySem.Spec L2
open PyProof.Rows hiding St
def D.bools : List D → Option (List Bool)
  | [] => some []
  | .bl i :: r => (D.bools r).map (i :: ·)
  | _ :: _ => none
theorem Rps.bools {K : PySem.W.Frag} {H : Hp} {N : As} : ∀ {ds : List D} {vs : List V} {ns : List Bool}, Rps K H N 0 ds vs [] → D.bools ds = some ns → vs = ns.map V.bl
  | [], vs, ns, h, e => by
    simp only [Rps] at h
    obtain rfl : [] = ns := by simpa [D.bools] using e
    exact h.1
  | d :: ds, vs, ns, h, e => by
    simp only [Rps] at h; obtain ⟨v, vr, l1, l2, e', el, r1, r2⟩ := h
    have z1 := r1.zero; have z2 := r2.zero
    subst z1 z2 e'
    cases d with
    | bl i =>
      simp only [D.bools, Option.map_eq_some_iff] at e
      obtain ⟨ms, h1, rfl⟩ := e
      have i1 := Rps.bools r2 h1
      rw [i1, r1.bl]; rfl
    | _ => simp [D.bools] at e
def gAny : List D → Option (Nat × D)
  | [.lst ds] => match D.bools ds with
    | some bs => some (0, .bl (bs.any id))
    | none => none
  | _ => none
theorem opf_any {K : PySem.W.Frag} : OpFN K (rAny K) gAny := by
  intro H B ds vs Q h ok
  unfold gAny at ok
  split at ok
  · split at ok
    · rename_i ns e
      obtain ⟨v, rfl, r⟩ := h.one
      obtain ⟨a, us, rfl, ea, r⟩ := r.lst
      have e1 := r.bools e
      subst e1
      exact ⟨a, ns, rfl, SqL.of ea, ok.bl⟩
    · exact ok.elim
  · exact ok.elim
section
variable {X : Cx} {W : WX} {F : List Nat} {e o : Expr} {es : List Expr} {fs : DL.Env → ARes} {j : Nat} {p : List Nat} {pp pos apos cpos : Pos}
theorem d_any (hc : X.calm = true) (hm : X.mg "any" = none) (hg : Gl X "any") (h : DA X W (e :: es) fs) (he : starEach (e :: es) X.env = (false, eval e X.env) :: starEach es X.env := by rfl) (hpl : (backTo pos (starEach es X.env)).any (·.1) = false := by rfl) : DE X W (.Call (.Name "any" pp) (e :: es) [] pos) (eN gAny fs) := de_n (fun t ha => pe_callB (cr_any hc) hg hm (by decide +kernel) ha (he := he) (hpl := hpl)) opf_any h
def sClear (j : Nat) (p : List Nat) : SV := fun δ => match δ[j]? with
  | some (some (k + 1, d1)) => (match d1.at p with
    | some (.lst _) => .nx (δ.set j (some (k + 1, d1.put p (.lst []))))
    | _ => .bad)
  | _ => .bad
theorem ds_clear (mk : ∀ to, PE X o to → PS X (.Expr (.Call (.Attribute o "clear" apos) [] [] cpos) pos) (tDrop (tBM0 X.K "list" rClear to))) (ho : DP X o j p) :
    DS X W F (.Expr (.Call (.Attribute o "clear" apos) [] [] cpos) pos) (sClear j p) := by
  obtain ⟨to, po, qo⟩ := ho.ex
  refine ⟨_, mk to po, fun σ H δ L R D s ok => ?_⟩
  unfold sClear at ok
  split at ok
  · rename_i kk d0 hd0
    split at ok
    · rename_i ds0 ha0
      obtain ⟨v, a, vs, l', L2, f1, f2, f3, f4, f5, f6⟩ := SR.mut (lt := []) s hd0 ha0
      refine qo σ H v (.ref a) _ f1 f2 ⟨.inl ⟨rfl, vs, SqL.of f3⟩, ?_⟩
      refine ⟨a, vs, rfl, rfl, f3, ?_⟩
      have s3 := f6 [] [] [] l' (by simp) (by simp [Rps])
      have al : a ∈ L := f4.mem_iff.mpr (by simp)
      refine ok σ _ _ (kp_mut s.kp Nw.refl al) (fun x hx => ?_) s3 Fix.refl
      rcases List.mem_append.mp hx with hx | hx
      · have : x = a := by simpa using hx
        subst this; exact .inl al
      · exact .inl (f4.mem_iff.mpr (List.mem_append_right _ hx))
    · exact ok.elim
  · exact ok.elim
theorem d_clear (ho : DP X o j p) (hbase : attributeBase o "clear" X.env (eval o X.env) = eval o X.env := by rfl)
    (hline : (apos.endLine == cpos.line) = true := by rfl)
    (hsw : swapsWith (.Call (.Attribute o "clear" apos) [] [] cpos) none pos.line X.env = pure false := by rfl) :
    DS X W F (.Expr (.Call (.Attribute o "clear" apos) [] [] cpos) pos) (sClear j p) :=
  ds_clear (fun to ho => ps_expr (pe_bm0 PySem.F.plainAttrs_list PySem.F.slot_list_clear PySem.F.type_list_clear mt_clear ho (hbase := hbase) (hline := hline)) hsw) ho
end
theorem Rps.getM {K : PySem.W.Frag} {H : Hp} {N : As} : ∀ {m : Nat} {ds : List D} {vs : List V} {l : As} {i : Nat} {d : D}, Rps K H N m ds vs l → ds[i]? = some d → ∃ v l1, vs[i]? = some v ∧ l1.Sublist l ∧ Rp K H N m d v l1
  | m, [], vs, l, i, d, h, e => by simp at e
  | m, x :: ds, vs, l, i, d, h, e => by
    simp only [Rps] at h; obtain ⟨v, vr, l1, l2, e', el, r1, r2⟩ := h
    subst e' el
    cases i with
    | zero => have : x = d := by simpa using e
              subst this; exact ⟨v, l1, rfl, List.sublist_append_left _ _, r1⟩
    | succ i =>
      obtain ⟨u, l3, h1, h2, h3⟩ := Rps.getM r2 (i := i) (by simpa using e)
      exact ⟨u, l3, by simpa using h1, h2.trans (List.sublist_append_right _ _), h3⟩
def eIxM (i : Nat) (f : EV) : EV := fun δ => match f δ with
  | .ok (m + 1) (.tup ds) δ1 => (match ds[i]? with
    | some d => .ok (m + 1) d δ1
    | none => .bad)
  | .ok _ d δ1 => toRes δ1 (gIx d (.int i))
  | r => r
section
variable {X : Cx} {W : WX} {a b : Expr} {f : EV} {i : Nat} {pos : Pos}
theorem d_ixm (h : DE X W a f) (hb : PE X b (tC (.int (i : Int)))) (hs : PlainIx b) : DE X W (.Subscript a b pos) (eIxM i f) := by
  obtain ⟨t, p, q⟩ := h.ex
  refine ⟨_, pe_ix ix_seq p hb hs, fun σ H δ L R Q s ok => q σ H δ L R _ s ?_⟩
  unfold eIxM at ok
  cases hf : f δ with
  | bad => rw [hf] at ok; exact ok
  | exc x δ1 => rw [hf] at ok; exact ok
  | ok m d δ1 =>
    rw [hf] at ok
    have old : EOk X W σ H L R Q (toRes δ1 (gIx d (.int i))) → EOk X W σ H L R (fun v H1 => tC (.int (i : Int)) σ H1 fun u H2 => rIx X.K v u H2 Q) (.ok m d δ1) := by
      intro ok v H1 l L1 k w s1 rp
      obtain ⟨z1, z2⟩ := fz_at s1
      exact opf_ix H1 (L1 ++ R) d v (.int i) (.int i) Q (rp.fz z1 z2) (by simp [Rp]) (fin_new k w s1 ok)
    cases m with
    | zero => exact old ok
    | succ m =>
      cases d with
      | tup ds =>
        simp only at ok
        cases hd : ds[i]? with
        | none => rw [hd] at ok; exact ok.elim
        | some d =>
          rw [hd] at ok
          intro v H1 l L1 k w s1 rp
          simp only [Rp] at rp
          obtain ⟨a, vs, rfl, st, rr⟩ := rp
          obtain ⟨u, l1, hu, sb, ru⟩ := rr.getM hd
          have hlt : i < vs.length := (List.getElem?_eq_some_iff.mp hu).1
          refine .inr (.inl ⟨a, vs, i, u, rfl, rfl, st.sq, by rw [atI_n hlt]; exact hu, ?_⟩)
          exact ok u H1 l1 L1 k (fun x hx => w x (by
            rcases List.mem_append.mp hx with hx | hx
            · exact List.mem_append_left _ (sb.subset hx)
            · exact List.mem_append_right _ hx)) (s1.less (List.Sublist.append sb (List.Sublist.refl _))) (ru.sub fun x hx => by
            rcases List.mem_append.mp hx with hx | hx
            · exact List.mem_append_left _ hx
            · rcases List.mem_append.mp hx with hx | hx
              · exact List.mem_append_right _ (List.mem_append_left _ (sb.subset hx))
              · exact List.mem_append_right _ (List.mem_append_right _ hx))
      | _ => exact old ok
end
def Res.kixm (r : Res) (i : Nat) : Res := match r with
  | .ok (m + 1) (.tup ds) δ1 => (match ds[i]? with
    | some d => .ok (m + 1) d δ1
    | none => .bad)
  | .ok _ d δ1 => toRes δ1 (gIx d (.int i))
  | r => r
section
theorem eIxM_k {i : Nat} {f : EV} {δ : DL.Env} : eIxM i f δ = (f δ).kixm i := Eq.trans rfl rfl
theorem kixm_0 {m : Nat} {d : D} {r : List D} {δ : DL.Env} : (Res.ok (m + 1) (.tup (d :: r)) δ).kixm 0 = .ok (m + 1) d δ := Eq.trans rfl rfl
theorem kixm_1 {m : Nat} {d e : D} {r : List D} {δ : DL.Env} : (Res.ok (m + 1) (.tup (d :: e :: r)) δ).kixm 1 = .ok (m + 1) e δ := Eq.trans rfl rfl
theorem kixm_z0 {d : D} {r : List D} {δ : DL.Env} : (Res.ok 0 (.tup (d :: r)) δ).kixm 0 = .ok 0 d δ := by
  show toRes δ (gIx (.tup (d :: r)) (.int ((0 : Nat) : Int))) = _
  rw [gIx_t, atI_n (by simp)]; rfl
theorem kixm_z1 {d e : D} {r : List D} {δ : DL.Env} : (Res.ok 0 (.tup (d :: e :: r)) δ).kixm 1 = .ok 0 e δ := by
  show toRes δ (gIx (.tup (d :: e :: r)) (.int ((1 : Nat) : Int))) = _
  rw [gIx_t, atI_n (by simp)]; rfl
end
section
variable {j k : Nat} {p : List Nat} {δ : DL.Env} {d : D} {ds : List D}
def clr1 (o : Option D) (k j : Nat) (p : List Nat) (d1 : D) (δ : DL.Env) : SRes := match o with
  | some (.lst _) => .nx (put δ j (some (k + 1, d1.put p (.lst []))))
  | _ => .bad
def clrO (o : Option (Nat × D)) (j : Nat) (p : List Nat) (δ : DL.Env) : SRes := match o with
  | some (k + 1, d1) => clr1 (d1.at p) k j p d1 δ
  | _ => .bad
theorem sClear_k : sClear j p δ = clrO (look δ j) j p δ := by
  unfold sClear clrO
  rw [look_eq]
  rcases h : δ[j]? with _ | (_ | ⟨_ | m, d⟩) <;> try rfl
  all_goals
    simp only [Option.join_some, clr1, put_eq]
    all_goals
      rcases d.at p with _ | e
      · rfl
      · cases e <;> rfl
theorem clrO_k : clrO (some (k + 1, d)) j p δ = clr1 (d.at p) k j p d δ := Eq.trans rfl rfl
theorem clr1_k : clr1 (some (.lst ds)) k j p d δ = .nx (put δ j (some (k + 1, d.put p (.lst [])))) := Eq.trans rfl rfl
end
theorem bools_bl : ∀ bs : List Bool, D.bools (bs.map .bl) = some bs
  | [] => rfl
  | b :: bs => by rw [List.map_cons]; simp [D.bools, bools_bl bs]
theorem gAny_bl (bs : List Bool) : gAny [.lst (bs.map .bl)] = some (0, .bl (bs.any id)) := by
  show (match D.bools (bs.map .bl) with | some bs => some (0, D.bl (bs.any id)) | none => none) = _
  rw [bools_bl]
end DL
namespace DL
open PySem PySem.Spec L2
open PyProof.Rows hiding St
section
variable {X : Cx} {pins : List (Addr × Obj)} {σ : L2.St} {H : Hp} {s : Shared}
theorem inv_track {a : Addr} {o : HO} (I : Inv X pins σ H s) (na : H a = none) (n0 : X.s_0.heap.get? a = none) (nL : a ≠ X.env.locals) (nc : ∀ x c, X.env.cells.lookup x = some c → c ≠ a) (np : ∀ p ∈ X.pn ++ pins, p.1 ≠ a)
    (ok : ObjOk X.prog X.w (upd H a o) s.heap a o) : Inv X pins σ (upd H a o) s :=
  ⟨I.ok, I.os, I.bare, ⟨I.base.keep, I.base.slot, fun b ob e n hx => by
      rw [upd_ne (fun z => by rw [z, n0] at e; cases e)]; exact I.base.free b ob e n hx, I.base.there,
      fun b xs q => by rw [upd_ne (ne_of_none (I.base.tups b xs q) na)]; exact I.base.tups b xs q,
      fun b ob u q => by rw [upd_ne (ne_of_none (I.base.frzs b ob u q) na)]; exact I.base.frzs b ob u q,
      fun b ps q => by
        obtain ⟨more, e⟩ := I.base.tbls b ps q
        exact ⟨more, by rw [upd_ne (ne_of_none e na)]; exact e⟩⟩,
    I.loc, I.cell, by rw [upd_ne (Ne.symm nL)]; exact I.free, fun x c e => by rw [upd_ne (nc x c e)]; exact I.freeC x c e,
    fun p hp => by
      obtain ⟨h1, h2, h3⟩ := I.pin p hp
      exact ⟨h1, by rw [upd_ne (np p hp)]; exact h2, h3⟩,
    fun b u e => by
      by_cases hb : b = a
      · subst hb; rw [upd_same] at e; cases e; exact ok
      · rw [upd_ne hb] at e
        exact (I.hok b u e).stay (fun _ _ _ q => q) (fun c q => by rw [upd_ne (ne_of_none q na)]; exact q) fun c xs q => by rw [upd_ne (ne_of_none q na)]; exact q,
    I.len⟩
theorem inv_suite0 (I : Inv X pins σ H s) (a : Addr) : Inv (X.suite a (X.pn ++ pins)) [] σ H s :=
  ⟨I.ok.suite _ _, I.os, I.bare, I.base, I.loc, I.cell, I.free, I.freeC, fun p hp => I.pin p (by rw [List.append_nil] at hp; exact hp), I.hok, I.len⟩
theorem inv_unsuite0 {a : Addr} {pn' : List (Addr × Obj)} (I : Inv (X.suite a (X.pn ++ pins)) pn' σ H s) (ok : X.Ok) : Inv X pins σ H s :=
  ⟨ok, I.os, I.bare, I.base, I.loc, I.cell, I.free, I.freeC, fun p hp => I.pin p (List.mem_append_left _ hp), I.hok, I.len⟩
end
def setS (i : Option Nat) (x : Option V) (σ : L2.St) : L2.St := match i with
  | some i => σ.set i x
  | none => σ
def endsS (i : Option Nat) (D : Ends) : Ends := { nx := fun σ' H' => D.nx (setS i none σ') H', rt := D.rt, bk := fun σ' H' => D.bk (setS i none σ') H', ct := fun σ' H' => D.ct (setS i none σ') H' }
def wHs (K : PySem.W.Frag) (Wout : WX) (D : Ends) : List (Value × Option Nat × (Addr → TS)) → WX
  | [] => Wout
  | (c, i, ts) :: r => fun cls d σ H => ∃ b, PySem.W.exmOne K cls c = some b ∧ (b = true → ∀ a, H a = none → ts a (endsS i D) (setS i (some (.ref a)) σ) (upd H a (EcO cls d a))) ∧ (b = false → wHs K Wout D r cls d σ H)
inductive HsP (X : Cx) : List ExceptHandler → List (Value × Option Nat × (Addr → TS)) → Prop
  | nil : HsP X [] []
  | as {n x : Str} {np pos : Pos} {b₀ : Stmt} {suite : List Stmt} {c : Value} {i : Nat} {ts : Addr → TS} {r r'} (hi : X.N[i]? = some n) (hln : X.env.kindOf n = some .local) (hc : Names X x c)
      (hsu : ∀ (a : Addr) (pn : List (Addr × Obj)), PSs (X.suite a pn) (b₀ :: suite) (ts a)) (hr : HsP X r r') : HsP X (.ExceptHandler (some (.Name x np)) (some n) (b₀ :: suite) pos :: r) ((c, some i, ts) :: r')
  | only {x : Str} {np pos : Pos} {b₀ : Stmt} {suite : List Stmt} {c : Value} {ts : Addr → TS} {r r'} (hc : Names X x c)
      (hsu : ∀ (a : Addr) (pn : List (Addr × Obj)), PSs (X.suite a pn) (b₀ :: suite) (ts a)) (hr : HsP X r r') : HsP X (.ExceptHandler (some (.Name x np)) none (b₀ :: suite) pos :: r) ((c, none, ts) :: r')
section
variable {X : Cx} {pins : List (Addr × Obj)} {σ' : L2.St} {H' : Hp} {sI s' : Shared} {B h3 : Heap} {a : Addr} {cls : Value} {d : Option Addr} {Wout : WX} {D : Ends}
theorem handle_ok (hs : X.stack = X.env :: X.outer) (hf : X.env.frame = some X.env.locals) (hN : X.N.Nodup) (hex : X.ex = []) (tk : Takes X Wout) (J : Inv X pins σ' H' sI) (nb : ∀ b o, sI.heap.get? b = some o → b ∉ frs X.stack → B.get? b = some o) (na : H' a = none)
    (os : s'.os = sI.os) (ag : AllBare s'.gens) (up3 : sI.heap.UpToSlots h3) (fl3 : HandSPX.FlyingZ B (X.env :: X.outer) a (Zc cls d) h3) :
    ∀ {hd : List ExceptHandler} {hw : List (Value × Option Nat × (Addr → TS))}, HsP X hd hw → wHs X.K Wout D hw cls d σ' H' → wpAny (model X.prog X.w) X.A (handleBy (.ref a) X.env hd) (SP X pins D) X.xe { s' with heap := h3 } := by
  have ok := J.ok
  have hfr : X.A.frames = some (X.env :: X.outer) := by rw [ok.frames, hs]
  have J3 : Inv X pins σ' H' { s' with heap := h3 } := J.landed nb fl3.1 up3 os ag
  obtain ⟨oe3, vs3, he3, hz3, hd3⟩ := fl3.there
  have notFr : ∀ {h : Heap} {o : Obj} {vs : Array Value}, h.FunFrames B (X.env :: X.outer) → h.get? a = some o → o.data = .fields vs → a ∉ frs (X.env :: X.outer) := fun {h o vs} ff e dd hm => by
    obtain ⟨_, o', e', hnf⟩ := ff.mem hm
    rw [e] at e'; cases e'
    exact hnf _ dd
  have nfr := notFr fl3.2.2.1 he3 hd3
  have nL : a ≠ X.env.locals := fun z => nfr (List.mem_filterMap.mpr ⟨X.env, List.mem_cons_self, by rw [hf, z]⟩)
  have nF : a ∉ X.fs := fun hm => by
    obtain ⟨e, he, q⟩ := List.mem_filterMap.mp hm
    exact nfr (List.mem_filterMap.mpr ⟨e, List.mem_cons_of_mem _ he, q⟩)
  have nI : sI.heap.get? a = none := by
    cases e : sI.heap.get? a with
    | none => rfl
    | some o =>
      have := nb a o e (by rw [hs]; exact nfr)
      rw [fl3.2.1] at this; cases this
  have n0 : X.s_0.heap.get? a = none := by
    cases e : X.s_0.heap.get? a with
    | none => rfl
    | some o =>
      obtain ⟨o', e'⟩ := J.base.there a o e (by rw [hex]; simp)
      rw [nI] at e'; cases e'
  have np : ∀ p ∈ X.pn ++ pins, p.1 ≠ a := fun p hp z => by
    have := (J.pin p hp).1
    rw [z, nI] at this; cases this
  have nc : ∀ x c, X.env.cells.lookup x = some c → c ≠ a := fun x c e z => by
    obtain ⟨v, o, e1, e2⟩ := J.cell x c e
    rw [z, nI] at e1; cases e1
  have S3 := J3.suite he3 hd3 na nL nF
  have LT : PySem.W.Looks (model X.prog X.w) h3 (typeOf (.ref a)) cls := fun A Q E s k q => wpAny_typeOf_ref (k _ _ he3) (by rw [hz3.1]; exact q)
  have test : ∀ {x : Str} {c : Value} {np : Pos} {Q : Value → Shared → Prop} {E : Value → Shared → Prop}, Names X x c → Q c { s' with heap := h3 } → wpAny (model X.prog X.w) (X.A.mark (some (.ref a))) (eval (.Name x np) X.env) Q E { s' with heap := h3 } := fun {x c np Q E} hc q => by
    obtain ⟨hg, hdbg, hm | ⟨hm, hv, hnn⟩⟩ := hc
    · exact ld_glob (X := X.suite a ((a, oe3) :: (X.pn ++ pins))) S3 hg hm q hdbg
    · exact ld_blt (X := X.suite a ((a, oe3) :: (X.pn ++ pins))) S3 hg hm hv q hnn hdbg
  have land : ∀ {h4 : Heap}, sI.heap.UpToSlots h4 → HandSPX.FlyingZ B (X.env :: X.outer) a (Zc cls d) h4 → Inv X pins σ' (upd H' a (EcO cls d a)) { s' with heap := h4 } := fun {h4} up4 fl4 => by
    have J4 : Inv X pins σ' H' { s' with heap := h4 } := J.landed nb fl4.1 up4 os ag
    obtain ⟨oe4, vs4, he4, hz4, hd4⟩ := fl4.there
    exact inv_track J4 na n0 nL nc np (ecO_ok he4 hz4 hd4)
  intro hd hw hp
  induction hp with
  | nil =>
    intro hno
    refine wpAny_handleBy_nil ?_
    obtain ⟨k1, k2, k3, oe, vs, T, oT, ts', he, hz, hd, h1, hr⟩ := id fl3
    unfold PySem.passOn
    refine wpAny_bind (wpAny_field he hd h1 ?_)
    rw [if_neg (show ¬ ((Value.ref T == Value.none) = true) from by simp)]
    have fin : wpAny (model X.prog X.w) X.A (setFlight (.ref a) X.env.frame) (fun _ s4 => wpAny (model X.prog X.w) X.A (throw (.ref a) : Sem Flow) (SP X pins D) X.xe s4) X.xe { s' with heap := h3 } := by
      rw [hf]
      refine HandSPX.setFlight_upZ fl3 fun h4 hh4 up4 => wpAny_throw (tk _ _ ?_)
      exact ⟨a, B, sI, pins, σ', H', cls, d, rfl, J, nb, up3.trans up4, .inr (.inr (by rw [hs]; exact hh4)), na, os, ag, hno⟩
    first
      | exact wpAny_bind (wpAny_pure (wpAny_bind fin))
      | exact wpAny_bind fin
  | @as n x npos hpos b₀ suite c i ts r r' hi hln hc hsu hr ih =>
    rintro ⟨b, hb1, hyes, hno⟩
    have hloc : Loc X.env.scope n := .inl hln
    have LM := PySem.W.exm_one (M := model X.prog X.w) (J3.kIn) LT hb1
    refine wpAny_handleBy_cons (codeAny_handlers_test ?_) (by intro q; cases q)
    refine test hc (LM.here ?_)
    cases b with
    | true =>
      refine codeAny_handlers_suite_as ?_
      refine HandSPX.lands_againZ fl3 fun h4 fl4 up4 => ?_
      have S4 := inv_suite0 (land (up3.trans up4) fl4) a
      refine store_ok (X := X.suite a (X.pn ++ pins)) (v := .ref a) S4 hN hi hloc rfl (fun s5 S5 => ?_) (.inr hln)
      refine wpAny_mono ((hsu a (X.pn ++ pins)).run [] s5 _ _ _ S5 (hyes rfl a na)) (fun f s6 hsp => ?_) (fun _ _ z => False.elim z)
      have end_ : ∀ {σ6 : L2.St} {H6 : Hp} {Q : Shared → Prop}, Inv (X.suite a (X.pn ++ pins)) [] σ6 H6 s6 → (∀ s7, Inv X pins (σ6.set i none) H6 s7 → Q s7) →
          wpAny (model X.prog X.w) X.A (do bindName X.env n .none; unbindBehindTheSuite X.env n hpos) (fun _ s7 => Q s7) X.xe s6 := fun {σ6 H6 Q} S6 hq => gone_ok (inv_unsuite0 S6 ok) hN hi hln hq
      cases f with
      | next =>
        obtain ⟨σ6, H6, S6, q6⟩ := hsp
        exact end_ S6 fun s7 J7 => ⟨_, _, J7, q6⟩
      | brk =>
        obtain ⟨σ6, H6, S6, q6⟩ := hsp
        exact end_ S6 fun s7 J7 => ⟨_, _, J7, q6⟩
      | cont =>
        obtain ⟨σ6, H6, S6, q6⟩ := hsp
        exact end_ S6 fun s7 J7 => ⟨_, _, J7, q6⟩
      | ret u =>
        obtain ⟨v6, σ6, H6, S6, r6, q6⟩ := hsp
        exact end_ S6 fun s7 J7 => ⟨_, _, _, J7, r6, q6⟩
    | false => exact ih (hno rfl)
  | @only x npos hpos b₀ suite c ts r r' hc hsu hr ih =>
    rintro ⟨b, hb1, hyes, hno⟩
    have LM := PySem.W.exm_one (M := model X.prog X.w) (J3.kIn) LT hb1
    refine wpAny_handleBy_cons (codeAny_handlers_test ?_) (by intro q; cases q)
    refine test hc (LM.here ?_)
    cases b with
    | true =>
      refine codeAny_handlers_suite ?_
      refine HandSPX.lands_againZ fl3 fun h4 fl4 up4 => ?_
      have S4 := inv_suite0 (land (up3.trans up4) fl4) a
      refine wpAny_mono ((hsu a (X.pn ++ pins)).run [] _ _ _ _ S4 (hyes rfl a na)) (fun f s6 hsp => ?_) (fun _ _ z => False.elim z)
      cases f with
      | next =>
        obtain ⟨σ6, H6, S6, q6⟩ := hsp
        exact ⟨_, _, inv_unsuite0 S6 ok, q6⟩
      | brk =>
        obtain ⟨σ6, H6, S6, q6⟩ := hsp
        exact ⟨_, _, inv_unsuite0 S6 ok, q6⟩
      | cont =>
        obtain ⟨σ6, H6, S6, q6⟩ := hsp
        exact ⟨_, _, inv_unsuite0 S6 ok, q6⟩
      | ret u =>
        obtain ⟨v6, σ6, H6, S6, r6, q6⟩ := hsp
        exact ⟨_, _, _, inv_unsuite0 S6 ok, r6, q6⟩
    | false => exact ih (hno rfl)
end
section
variable {X : Cx} {body : List Stmt} {hd : List ExceptHandler} {hw : List (Value × Option Nat × (Addr → TS))} {pos : Pos} {tb : WX → TS} {Wout : WX}
theorem ps_try_list (hs : X.stack = X.env :: X.outer) (hf : X.env.frame = some X.env.locals) (hN : X.N.Nodup) (hex : X.ex = []) (tk : Takes X Wout) (hne : hd ≠ [])
    (hb : ∀ (W : WX) (pn : List (Addr × Obj)) (xe : Value → Shared → Prop), Takes (X.tr pn xe) W → PassesOwn (model X.prog X.w) X.A X.env xe → PSs (X.tr pn xe) body (tb W))
    (hh : HsP X hd hw) : PS X (.Try body hd [] [] pos) (fun D σ H => tb (wHs X.K Wout D hw) D σ H) := by
  refine ⟨fun pins s σ H D I h => ?_⟩
  have ok := I.ok
  have hfr : X.A.frames = some (X.env :: X.outer) := by rw [ok.frames, hs]
  obtain ⟨h0, hr, rfl⟩ : ∃ h0 hr, hd = h0 :: hr := by
    cases hd with
    | nil => exact absurd rfl hne
    | cons a b => exact ⟨a, b, rfl⟩
  refine wpAny_Try_except ?_
  refine wpAny_mono ((hb (wHs X.K Wout D hw) (X.pn ++ pins) (fun e s₁ => wpAny (model X.prog X.w) X.A (noteFrame e X.env) (fun _ s₂ => wpAny (model X.prog X.w) X.A (setFlight e none) (fun _ s₃ =>
    wpAny (model X.prog X.w) X.A (handleBy e X.env (h0 :: hr)) (SP X pins D) X.xe s₃) X.xe s₂) X.xe s₁) (fun u s' xx => ?_) PassesOwn.looking).run [] s σ H D (I.toTry _) h) (fun f s1 hsp => ?_) (fun e s1 he => he)
  · obtain ⟨a, B, sI, pins', σ', H', cls, d, rfl, J', nb, up, sky, na, os, ag, q⟩ := xx
    have J : Inv X pins σ' H' sI := J'.ofTry ok
    have sky' : Sky B (X.env :: X.outer) a (Zc cls d) X.env.locals s'.heap := by rw [← hs]; exact sky
    show wpAny (model X.prog X.w) X.A (noteFrame (.ref a) X.env) _ _ _
    refine Sky.land Zc.steady hfr hf sky' fun h3 fl3 up3 => ?_
    exact handle_ok hs hf hN hex tk J nb na os ag (up.trans up3) fl3 hh q
  · cases f with
    | next =>
      obtain ⟨σ', H', J', q⟩ := hsp
      exact wpAny_execs_nil ⟨σ', H', J'.ofTry ok, q⟩
    | brk =>
      obtain ⟨σ', H', J', q⟩ := hsp
      exact ⟨σ', H', J'.ofTry ok, q⟩
    | cont =>
      obtain ⟨σ', H', J', q⟩ := hsp
      exact ⟨σ', H', J'.ofTry ok, q⟩
    | ret u =>
      obtain ⟨v, σ', H', J', r, q⟩ := hsp
      exact ⟨v, σ', H', J'.ofTry ok, r, q⟩
end
end DL
namespace DL
open PySem PySem.Spec L2
open PyProof.Rows hiding St
abbrev Hdl := List (Str × Bool) × Option Nat × SV
def wipeH (i : Option Nat) (δ : DL.Env) : DL.Env := match i with
  | some i => δ.set i none
  | none => δ
def endH (i : Option Nat) (r : SRes) : SRes := match r with
  | .nx δ => .nx (wipeH i δ)
  | .brk δ => .brk (wipeH i δ)
  | .cnt δ => .cnt (wipeH i δ)
  | .ret m d δ => .ret m d δ
  | .exc _ _ => .bad
  | .bad => .bad
def nxH (i : Option Nat) (g : SV) (o : Option DL.Env) : SRes := match o with
  | some δ => endH i (g δ)
  | none => .bad
def hGo (i : Option Nat) (g : SV) (x : XD) (δ : DL.Env) : SRes := match i with
  | some j => nxH (some j) g (setOne (true, j) 0 (.exn x.cls x.ns x.ds) δ)
  | none => endH none (g δ)
def hTry : List Hdl → XD → DL.Env → SRes
  | [], x, δ => .exc x δ
  | h :: r, x, δ => match h.1.lookup x.cls with
    | some true => hGo h.2.1 h.2.2 x δ
    | some false => hTry r x δ
    | none => .bad
def SRes.ktry (r : SRes) (hs : List Hdl) : SRes := match r with
  | .exc x δ' => hTry hs x δ'
  | r => r
def sTry (f : SV) (hs : List Hdl) : SV := fun δ => (f δ).ktry hs
inductive HsD (X : Cx) (F : List Nat) : List ExceptHandler → List Hdl → Prop
  | nil : HsD X F [] []
  | as {n x : Str} {np pos : Pos} {b₀ : Stmt} {suite : List Stmt} {c : Value} {i : Nat} {g : SV} {tb : List (Str × Bool)} {r r'} (hi : X.N[i]? = some n) (hln : X.env.kindOf n = some .local) (hF : i ∉ F) (hc : Names X x c)
      (hx : ∀ p ∈ tb, PySem.W.exmOne X.K (.ref (He.ga X.K p.1)) c = some p.2)
      (hsu : ∀ (a : Addr) (pn : List (Addr × Obj)), DSs (X.suite a pn) (fun _ _ _ _ => False) F (b₀ :: suite) g) (hr : HsD X F r r') : HsD X F (.ExceptHandler (some (.Name x np)) (some n) (b₀ :: suite) pos :: r) ((tb, some i, g) :: r')
  | only {x : Str} {np pos : Pos} {b₀ : Stmt} {suite : List Stmt} {c : Value} {g : SV} {tb : List (Str × Bool)} {r r'} (hc : Names X x c)
      (hx : ∀ p ∈ tb, PySem.W.exmOne X.K (.ref (He.ga X.K p.1)) c = some p.2)
      (hsu : ∀ (a : Addr) (pn : List (Addr × Obj)), DSs (X.suite a pn) (fun _ _ _ _ => False) F (b₀ :: suite) g) (hr : HsD X F r r') : HsD X F (.ExceptHandler (some (.Name x np)) none (b₀ :: suite) pos :: r) ((tb, none, g) :: r')
theorem lookup_mem {α β : Type} [BEq α] [LawfulBEq α] {k : α} {v : β} : ∀ {l : List (α × β)}, l.lookup k = some v → (k, v) ∈ l
  | [], h => by cases h
  | p :: l, h => by
    rw [List.lookup_cons] at h
    split at h
    · rename_i e
      have e' : k = p.1 := by simpa using e
      cases h
      subst e'
      exact List.mem_cons_self
    · exact List.mem_cons_of_mem _ (lookup_mem h)
theorem isOwn_upd {H : Hp} {a : Addr} {o : HO} (na : H a = none) {b : Addr} (h : IsOwn H b) : IsOwn (upd H a o) b :=
  h.imp (fun ⟨x, e⟩ => ⟨x, upd_ext na _ _ e⟩) fun ⟨x, e⟩ => ⟨x, upd_ext na _ _ e⟩
section
variable {X : Cx} {F : List Nat} {W : WX}
theorem suite_ok {a : Addr} {pn : List (Addr × Obj)} {i : Option Nat} {σ σ1 : L2.St} {H : Hp} {δ : DL.Env} {L L1 R : As} {D : Ends} {o : HO} (s : SR X.K σ H δ L R) (na : H a = none) (hL : ∀ b ∈ L1, b ∈ L) (fx : Fix F σ σ1) (hi : ∀ j, i = some j → j ∉ F) {r : SRes}
    (ok : SOk X W F σ H L R D (endH i r)) : SOk (X.suite a pn) (fun _ _ _ _ => False) F σ1 (upd H a o) L1 R (endsS i D) r := by
  have k0 : Kp H (upd H a o) L := ⟨fun b u e _ => upd_ext na b u e, s.own⟩
  have w0 : Nw H L L1 := fun b hb => .inl (hL b hb)
  have key : ∀ {Q : L2.St → Hp → Prop} {δ' : DL.Env}, NOk X F σ H L R Q (wipeH i δ') → NOk (X.suite a pn) F σ1 (upd H a o) L1 R (fun σ' H' => Q (setS i none σ') H') δ' := by
    intro Q δ' h σ' H' L' k w s' fx'
    cases i with
    | none => exact h σ' H' L' (Kp.trans k0 w0 k) (Nw.trans k0 w0 w) s' (fx.trans fx')
    | some j =>
      obtain ⟨L2, sb, s2⟩ := SR.drop s' j
      exact h (σ'.set j none) H' L2 (Kp.trans k0 w0 k) (Nw.trans k0 w0 fun b hb => w b (sb.subset hb)) (s2.any j none (set_none_get _ _)) ((fx.trans fx').trans (fix_set (hi j rfl)))
  cases r with
  | nx δ' => exact key ok
  | brk δ' => exact key ok
  | cnt δ' => exact key ok
  | ret m d δ' => exact fun v σ' H' l L' k w s' fx' rp => ok v σ' H' l L' (Kp.trans k0 w0 k) (Nw.trans k0 w0 w) s' (fx.trans fx') rp
  | exc x δ' => exact ok.elim
  | bad => exact ok.elim
theorem hs_of : ∀ {hd : List ExceptHandler} {hs : List Hdl}, HsD X F hd hs → ∃ hw, HsP X hd hw ∧ ∀ (D : Ends) (σ : L2.St) (H : Hp) (δ : DL.Env) (L R : As) (x : XD) (cls : Value) (d : Option Addr), SR X.K σ H δ L R → XRel X.K X.mg H (L ++ R) x cls d → SOk X W F σ H L R D (hTry hs x δ) → wHs X.K W D hw cls d σ H := by
  intro hd hs h
  induction h with
  | nil => exact ⟨[], .nil, fun D σ H δ L R x cls d s xr ok => ok cls d σ H L s.kp Nw.refl s Fix.refl xr⟩
  | @as n x0 np pos b₀ suite c i g tb r r' hi hln hF hc hx hsu hr ih =>
    obtain ⟨hw, p, q⟩ := ih
    refine ⟨(c, some i, fun a D σ H => ∀ pn, Classical.choose (hsu a pn).ex D σ H) :: hw, .as hi hln hc (fun a pn => ⟨fun pins s σ H D I h => (Classical.choose_spec (hsu a pn).ex).1.run pins s σ H D I (h pn)⟩) p, fun D σ H δ L R x cls d s xr ok => ?_⟩
    unfold hTry at ok
    cases hl : tb.lookup x.cls with
    | none => rw [hl] at ok; exact ok.elim
    | some b =>
      rw [hl] at ok
      have hb := hx _ (lookup_mem hl)
      rw [← xr.1] at hb
      refine ⟨b, hb, fun e a na pn => ?_, fun e => ?_⟩
      · subst e
        have k1 : Kp H (upd H a (EcO cls d a)) [] := kp_upd na
        have s1 : SR X.K σ (upd H a (EcO cls d a)) δ L R := s.step k1 (fun _ z => by cases z) s.nd (fun b hb => .inl hb) fun b hb => isOwn_upd na (s.tr b hb)
        have rp : Rp X.K (upd H a (EcO cls d a)) (L ++ ([] ++ R)) 0 (.exn x.cls x.ns x.ds) (.ref a) [] := by
          simp only [Rp]
          refine ⟨a, d, rfl, by rw [upd_same, xr.1], trivial, ?_⟩
          rcases xr.2 with ⟨e1, e2, e3⟩ | ⟨dx, vs, e1, e2, e3, e4⟩
          · exact .inl ⟨e1, e2, e3⟩
          · exact .inr ⟨dx, vs, e1, upd_ext na _ _ e2, e3, e4.step k1 (fun _ z => by cases z) (fun b hb => .inl (by simpa using hb)) fun _ z => by cases z⟩
        simp only [hGo] at ok
        cases hz : setOne (true, i) 0 (.exn x.cls x.ns x.ds) δ with
        | none => rw [hz] at ok; exact ok.elim
        | some δ1 =>
          rw [hz] at ok
          obtain ⟨L1, hL1, s2⟩ := setOne_ok (l := []) s1 rp hz
          exact (Classical.choose_spec (hsu a pn).ex).2 _ _ _ L1 R _ s2 (suite_ok s na (fun b hb => by simpa using hL1 b hb) (fix_set hF) (fun j e => by cases e; exact hF) ok)
      · subst e
        exact q D σ H δ L R x cls d s xr ok
  | @only x0 np pos b₀ suite c g tb r r' hc hx hsu hr ih =>
    obtain ⟨hw, p, q⟩ := ih
    refine ⟨(c, none, fun a D σ H => ∀ pn, Classical.choose (hsu a pn).ex D σ H) :: hw, .only hc (fun a pn => ⟨fun pins s σ H D I h => (Classical.choose_spec (hsu a pn).ex).1.run pins s σ H D I (h pn)⟩) p, fun D σ H δ L R x cls d s xr ok => ?_⟩
    unfold hTry at ok
    cases hl : tb.lookup x.cls with
    | none => rw [hl] at ok; exact ok.elim
    | some b =>
      rw [hl] at ok
      have hb := hx _ (lookup_mem hl)
      rw [← xr.1] at hb
      refine ⟨b, hb, fun e a na pn => ?_, fun e => ?_⟩
      · subst e
        have k1 : Kp H (upd H a (EcO cls d a)) [] := kp_upd na
        have s1 : SR X.K σ (upd H a (EcO cls d a)) δ L R := s.step k1 (fun _ z => by cases z) s.nd (fun b hb => .inl hb) fun b hb => isOwn_upd na (s.tr b hb)
        exact (Classical.choose_spec (hsu a pn).ex).2 _ _ _ L R _ s1 (suite_ok s na (fun b hb => hb) Fix.refl (fun j e => by cases e) ok)
      · subst e
        exact q D σ H δ L R x cls d s xr ok
theorem ds_try {body : List Stmt} {hd : List ExceptHandler} {hs : List Hdl} {f : SV} {pos : Pos} (hst : X.stack = X.env :: X.outer) (hf : X.env.frame = some X.env.locals) (hN : X.N.Nodup) (hex : X.ex = []) (tk : Takes X W) (hne : hd ≠ [])
    (hb : ∀ (W' : WX) (pn : List (Addr × Obj)) (xe : Value → Shared → Prop), Takes (X.tr pn xe) W' → PassesOwn (model X.prog X.w) X.A X.env xe → DSs (X.tr pn xe) W' F body f)
    (hh : HsD X F hd hs) : DS X W F (.Try body hd [] [] pos) (sTry f hs) := by
  obtain ⟨hw, hp, hq⟩ := hs_of (W := W) hh
  have hx : ∀ (W' : WX) (pn : List (Addr × Obj)) (xe : Value → Shared → Prop) (T : Takes (X.tr pn xe) W') (P : PassesOwn (model X.prog X.w) X.A X.env xe), ∃ t, PSs (X.tr pn xe) body t ∧ ∀ σ H δ L R D, SR X.K σ H δ L R → SOk (X.tr pn xe) W' F σ H L R D (f δ) → t D σ H := fun W' pn xe T P => (hb W' pn xe T P).ex
  refine ⟨_, ps_try_list (tb := fun W' D σ H => ∀ (pn : List (Addr × Obj)) (xe : Value → Shared → Prop) (T : Takes (X.tr pn xe) W') (P : PassesOwn (model X.prog X.w) X.A X.env xe), Classical.choose (hx W' pn xe T P) D σ H) hst hf hN hex tk hne
    (fun W' pn xe T P => ⟨fun pins s σ H D I h => (Classical.choose_spec (hx W' pn xe T P)).1.run pins s σ H D I (h pn xe T P)⟩) hp, fun σ H δ L R D s ok pn xe T P => ?_⟩
  refine (Classical.choose_spec (hx _ pn xe T P)).2 σ H δ L R D s ?_
  unfold sTry at ok
  cases hfd : f δ with
  | nx δ' => rw [hfd] at ok; exact ok
  | brk δ' => rw [hfd] at ok; exact ok
  | cnt δ' => rw [hfd] at ok; exact ok
  | ret m d δ' => rw [hfd] at ok; exact ok
  | bad => rw [hfd] at ok; exact ok
  | exc x δ' =>
    rw [hfd] at ok
    intro c dx σ' H' L' k w s' fx xr
    exact hq D σ' H' δ' L' R x c dx s' xr (SOk.same k w fx ok)
end
end DL
namespace DL
open PySem PySem.Spec L2
open PyProof.Rows hiding St
structure XcC (K : PySem.W.Frag) (C : Addr) : Prop where
  cl : (PySem.W.clsIn K C).isSome = true
  ga : PySem.W.findIn K (.ref C) "__getattribute__" = some (some (.builtin "BaseException.__getattribute__"))
  gt : PySem.W.findIn K (.ref C) "__getattr__" = some none
  sb : PySem.W.subIn K (.ref C) (.type "BaseException") = some true
  ac : PySem.W.findIn K (.ref C) "__class__" = some (some (.builtin "object.__class__"))
  sp : PySem.W.specialIn K (.builtin "object.__class__") "__get__" = some (some (.builtin "getset_descriptor.__get__"))
  tk : PySem.W.takesIn K (.builtin "object.__class__") = some true
  mo : PySem.W.mroIn K C (.type "object") = some true
  hd : PySem.W.hasDictIn K C = true
def xcB (K : PySem.W.Frag) (C : Addr) : Bool :=
  (PySem.W.clsIn K C).isSome && (He.eqO (PySem.W.findIn K (.ref C) "__getattribute__") (some (some (.builtin "BaseException.__getattribute__"))) && (He.eqO (PySem.W.findIn K (.ref C) "__getattr__") (some none) &&
    (decide (PySem.W.subIn K (.ref C) (.type "BaseException") = some true) && (He.eqO (PySem.W.findIn K (.ref C) "__class__") (some (some (.builtin "object.__class__"))) &&
      (He.eqO (PySem.W.specialIn K (.builtin "object.__class__") "__get__") (some (some (.builtin "getset_descriptor.__get__"))) && (decide (PySem.W.takesIn K (.builtin "object.__class__") = some true) &&
        (decide (PySem.W.mroIn K C (.type "object") = some true) && PySem.W.hasDictIn K C)))))))
theorem xcB_ok {K : PySem.W.Frag} {C : Addr} (h : xcB K C = true) : XcC K C := by
  obtain ⟨h1, h⟩ := He.ba h
  obtain ⟨h2, h⟩ := He.ba h
  obtain ⟨h3, h⟩ := He.ba h
  obtain ⟨h4, h⟩ := He.ba h
  obtain ⟨h5, h⟩ := He.ba h
  obtain ⟨h6, h⟩ := He.ba h
  obtain ⟨h7, h⟩ := He.ba h
  obtain ⟨h8, h9⟩ := He.ba h
  exact ⟨h1, He.eqO_ok h2, He.eqO_ok h3, of_decide_eq_true h4, He.eqO_ok h5, He.eqO_ok h6, of_decide_eq_true h7, of_decide_eq_true h8, h9⟩
def oexB (K : PySem.W.Frag) (C : Addr) : Bool := (match K.lookup C with
  | some ⟨.type "type", _, .cls cd, sl⟩ => (match cd.mro, sl.toList with
    | .ref C' :: bm, [_, _, _, _, some (.builtin n), _] => C' == C && n == "ValueError.__new__" && !cd.hasDel && PySem.HandSPX.refsVE bm && cd.hasDict
    | _, _ => false)
  | _ => false) && (He.eqO (PySem.W.findIn K (.ref C) "__setattr__") (some (some (.builtin "object.__setattr__"))) && (decide (PySem.W.subIn K (.ref C) (.type "BaseException") = some true) &&
    (decide (PySem.W.typeIn K (.ref C) = some (.type "type")) && PySem.W.keepIn K (.ref C))))
theorem oexB_ok {K : PySem.W.Frag} {C : Addr} (h : oexB K C = true) : OexC K C := by
  obtain ⟨q, h⟩ := He.ba h
  obtain ⟨h2, h⟩ := He.ba h
  obtain ⟨h3, h⟩ := He.ba h
  obtain ⟨h4, h5⟩ := He.ba h
  refine ⟨?_, He.eqO_ok h2, of_decide_eq_true h3, of_decide_eq_true h4, h5⟩
  split at q
  · rename_i dd cd sl ho
    split at q
    · rename_i C' bm k0 k1 k2 k3 n k5 hm hs
      simp only [Bool.and_eq_true, beq_iff_eq, Bool.not_eq_true'] at q
      obtain ⟨⟨⟨⟨rfl, rfl⟩, hdel⟩, ht⟩, hdd⟩ := q
      obtain ⟨nm, bs, mro, ns, qn, hd, sn, sub, ab, col, del⟩ := cd
      dsimp only at hm hdel hdd
      subst hm hdel hdd
      have hsl : sl = #[k0, k1, k2, k3, some (.builtin "ValueError.__new__"), k5] := by
        obtain ⟨l⟩ := sl
        simp only at hs
        rw [hs]
      subst hsl
      exact ⟨nm, qn, ns, bs, bm, sn, sub, ab, col, dd, k0, k1, k2, k3, k5, ho, ht⟩
    · cases q
  · cases q
def iniB (K : PySem.W.Frag) (C : Addr) (fs : List Str) : Bool := oexB K C && (He.eqO (PySem.W.findIn K (.ref C) "__init__") (some (some (.ref (He.ma K C "__init__")))) && (decide (PySem.W.typeIn K (.ref (He.ma K C "__init__")) = some (.type "function")) &&
  fs.all fun f => He.eqO (PySem.W.findIn K (.ref C) f) (some none)))
structure IniC (K : PySem.W.Frag) (C : Addr) (fs : List Str) : Prop where
  ox : OexC K C
  ini : PySem.W.findIn K (.ref C) "__init__" = some (some (.ref (He.ma K C "__init__")))
  ty : PySem.W.typeIn K (.ref (He.ma K C "__init__")) = some (.type "function")
  no : ∀ f ∈ fs, PySem.W.findIn K (.ref C) f = some none
theorem iniB_ok {K : PySem.W.Frag} {C : Addr} {fs : List Str} (h : iniB K C fs = true) : IniC K C fs := by
  obtain ⟨h1, h⟩ := He.ba h
  obtain ⟨h2, h⟩ := He.ba h
  obtain ⟨h3, h4⟩ := He.ba h
  exact ⟨oexB_ok h1, He.eqO_ok h2, of_decide_eq_true h3, fun f hf => He.eqO_ok (List.all_eq_true.mp h4 f hf)⟩
structure BaiC (K : PySem.W.Frag) (C : Addr) : Prop where
  tg : PySem.W.specialIn K (.ref C) "__getattribute__" = some (some (.builtin "type.__getattribute__"))
  ty : PySem.W.typeIn K (.ref C) = some (.type "type")
  rd : PySem.W.readsIn K C (.type "type") = true
  fc : PySem.W.findCls K (.ref C) (.type "type") "__init__" = some (.val (.builtin "ValueError.__init__"))
def isValB (o : Option PySem.W.CFound) : Bool := match o with
  | some (.val (.builtin n)) => n == "ValueError.__init__"
  | _ => false
def baiB (K : PySem.W.Frag) (C : Addr) : Bool := He.eqO (PySem.W.specialIn K (.ref C) "__getattribute__") (some (some (.builtin "type.__getattribute__"))) && (decide (PySem.W.typeIn K (.ref C) = some (.type "type")) && (PySem.W.readsIn K C (.type "type") &&
  isValB (PySem.W.findCls K (.ref C) (.type "type") "__init__")))
theorem baiB_ok {K : PySem.W.Frag} {C : Addr} (h : baiB K C = true) : BaiC K C := by
  obtain ⟨h1, h⟩ := He.ba h
  obtain ⟨h2, h⟩ := He.ba h
  obtain ⟨h3, h4⟩ := He.ba h
  refine ⟨He.eqO_ok h1, of_decide_eq_true h2, h3, ?_⟩
  unfold isValB at h4
  split at h4
  · rename_i n e
    rw [e, beq_iff_eq.mp h4]
  · cases h4
inductive CR where
  | own (x : Str) | blt (t : String)
def cvl (K : PySem.W.Frag) : CR → Value
  | .own x => .ref (He.ga K x)
  | .blt t => .type t
def cvv (K : PySem.W.Frag) : CR → V
  | .own x => .ref (He.ga K x)
  | .blt t => .ty t
theorem cvv_ok (K : PySem.W.Frag) (p : CR) : ClsV (cvv K p) (cvl K p) := by
  cases p with
  | own x => exact .own _
  | blt t => exact .ty _
def vOf : D → V
  | .int i => .int i
  | .str x => .str x
  | .bl b => .bl b
  | _ => .non
def tupB (K : PySem.W.Frag) (x : Str) (ds : List D) : Bool := (match K.lookup (He.ga K x) with
  | some ⟨.type c, _, .seq its _, _⟩ => c == "tuple" && (decide (its.size ≤ sizeLine) && He.relAll (ds.map vOf) its.toList)
  | _ => false) && ds.all D.atom
inductive Fx where
  | ini (x : Str) (fs : List Str) | bai (x : Str) | exm (tb : List (Str × Bool)) (y : CR) | kit (tb : List (Str × Bool)) (ys : List CR) | att (cl : List Str) (n : Str) | tup (x : Str) (ds : List D)
def Fx.ok (K : PySem.W.Frag) : Fx → Bool
  | .ini x fs => iniB K (He.ga K x) fs
  | .bai x => baiB K (He.ga K x)
  | .exm tb y => tb.all fun p => decide (PySem.W.exmOne K (.ref (He.ga K p.1)) (cvl K y) = some p.2)
  | .kit tb ys => tb.all fun p => xcB K (He.ga K p.1) && decide (PySem.W.kitAny K (.ref (He.ga K p.1)) (ys.map (cvl K)) = some p.2)
  | .att cl n => cl.all fun c => xcB K (He.ga K c) && He.eqO (PySem.W.findIn K (.ref (He.ga K c)) n) (some none)
  | .tup x ds => tupB K x ds
theorem fx_ini {K : PySem.W.Frag} {x : Str} {fs : List Str} (h : (Fx.ini x fs).ok K = true) : IniC K (He.ga K x) fs := iniB_ok h
theorem fx_bai {K : PySem.W.Frag} {x : Str} (h : (Fx.bai x).ok K = true) : BaiC K (He.ga K x) := baiB_ok h
theorem fx_exm {K : PySem.W.Frag} {tb : List (Str × Bool)} {y : CR} (h : (Fx.exm tb y).ok K = true) : ∀ p ∈ tb, PySem.W.exmOne K (.ref (He.ga K p.1)) (cvl K y) = some p.2 := fun p hp => of_decide_eq_true (List.all_eq_true.mp h p hp)
theorem fx_kit {K : PySem.W.Frag} {tb : List (Str × Bool)} {ys : List CR} (h : (Fx.kit tb ys).ok K = true) : ∀ p ∈ tb, XcC K (He.ga K p.1) ∧ PySem.W.kitAny K (.ref (He.ga K p.1)) (ys.map (cvl K)) = some p.2 := fun p hp => by
  obtain ⟨h1, h2⟩ := He.ba (List.all_eq_true.mp h p hp)
  exact ⟨xcB_ok h1, of_decide_eq_true h2⟩
theorem fx_att {K : PySem.W.Frag} {cl : List Str} {n : Str} (h : (Fx.att cl n).ok K = true) : ∀ c ∈ cl, XcC K (He.ga K c) ∧ PySem.W.findIn K (.ref (He.ga K c)) n = some none := fun c hc => by
  obtain ⟨h1, h2⟩ := He.ba (List.all_eq_true.mp h c hc)
  exact ⟨xcB_ok h1, He.eqO_ok h2⟩
theorem rp_atoms {K : PySem.W.Frag} {H : Hp} {N : As} : ∀ {ds : List D}, ds.all D.atom = true → Rps K H N 0 ds (ds.map vOf) []
  | [], _ => by simp [Rps]
  | d :: ds, h => by
    obtain ⟨h1, h2⟩ := He.ba (by rw [List.all_cons] at h; exact h)
    simp only [Rps, List.map_cons]
    refine ⟨vOf d, ds.map vOf, [], [], rfl, rfl, ?_, rp_atoms h2⟩
    cases d <;> first | (simp [Rp, vOf]; done) | cases h1
theorem fx_tup {K : PySem.W.Frag} {x : Str} {ds : List D} (h : (Fx.tup x ds).ok K = true) (H : Hp) (N : As) : Rp K H N 0 (.tup ds) (.ref (He.ga K x)) [] := by
  obtain ⟨h1, h2⟩ := He.ba h
  simp only [Rp]
  refine ⟨_, ds.map vOf, rfl, ?_, rp_atoms h2⟩
  show SqT K H _ _
  split at h1
  · rename_i c dd its n sl ho
    obtain ⟨q1, q2⟩ := He.ba h1
    obtain ⟨q2, q3⟩ := He.ba q2
    exact .inr ⟨_, its, n, ho, congrArg Value.type (beq_iff_eq.mp q1), rfl, of_decide_eq_true q2, He.relAll_ok q3⟩
  · cases h1
def fxsB (fx : List Fx) (K : PySem.W.Frag) : Bool := fx.all fun f => f.ok K
abbrev AlM : Type := He.AlD × Bool
def obsM (n : Nat) (fa : List He.Fa) (fn : List He.DefD) (fx : List Fx) (g : Addr → Option Obj) : AlM := (He.obsD fa fn (He.frG g (cStatics :: He.asD g n)), fxsB fx (He.frG g (cStatics :: He.asD g n)))
def hookM (n : Nat) (fa : List He.Fa) (fn : List He.DefD) (fx : List Fx) : PySem.W.Hook where
  α := AlM
  obs := fun s => obsM n fa fn fx s.heap.get?
  val := fun _ => (He.valD fn, true)
  says := fun _ h => ∃ K : PySem.W.Frag, K.In h ∧ He.SaysD fa fn K ∧ fxsB fx K = true
  of := fun _ _ e => ⟨_, He.frG_in, congrArg (fun z : AlM => z.1) e, congrArg (fun z : AlM => z.2) e⟩
  keeps := fun _ _ _ ⟨K, hK, c⟩ k => ⟨K, PySem.W.Frag.In.keeps hK k, c⟩
theorem obsM_eq {n : Nat} {fa : List He.Fa} {fn : List He.DefD} {fx : List Fx} {g : Addr → Option Obj} {s : Shared} (h : ∀ a, g a = s.heap.get? a) : obsM n fa fn fx g = (hookM n fa fn fx).obs s := by
  have e : g = s.heap.get? := funext h
  rw [e] <;> rfl
theorem fx_of {fx : List Fx} {K : PySem.W.Frag} (c : fxsB fx K = true) (i : Nat) {f : Fx} (h : fx[i]? = some f := by rfl) : f.ok K = true := List.all_eq_true.mp c f (List.mem_of_getElem? h)
def rIsX (K : PySem.W.Frag) (ps : List (CR)) : V → V → Hp → VK → Prop := fun x c H Q => ∃ (a D : Addr) (d : Option Addr) (b : Bool), x = .ref a ∧ H a = some (EcO (.ref D) d a) ∧ (d = none ∨ ∃ dx fs, d = some dx ∧ H dx = some (.xd fs)) ∧
  XcC K D ∧ PySem.W.kitAny K (.ref D) (ps.map (cvl K)) = some b ∧ ((∃ p, ps = [p] ∧ c = cvv K p) ∨ ∃ tp, c = .ref tp ∧ H tp = some (.tup (ps.map (cvv K)))) ∧ Q (.bl b) H
theorem paired_cvv (K : PySem.W.Frag) : ∀ ps : List (CR), Paired ClsV (ps.map (cvv K)) (ps.map (cvl K))
  | [] => .nil
  | p :: ps => .cons (cvv_ok K p) (paired_cvv K ps)
theorem kitAny_one {K : PySem.W.Frag} {t c : Value} {b : Bool} (h : PySem.W.kitAny K t [c] = some b) : PySem.W.kitOne K t c = some b := by
  unfold PySem.W.kitAny at h
  split at h
  · rename_i e; cases h; exact e
  · rename_i e
    unfold PySem.W.kitAny at h
    cases h; exact e
  · cases h
theorem ecO_at {P : Program} {w : World} {H : Hp} {h : Heap} {a : Addr} {cls : Value} {d : Option Addr} (hok : HOk P w H h) (e : H a = some (EcO cls d a)) : ∃ (oe : Obj) (vs : Array Value), h.get? a = some oe ∧ Zc cls d oe ∧ oe.data = .fields vs := by
  have x : ObjOk P w H h a (.ext fun h => ∃ (oe : Obj) (vs : Array Value), h.get? a = some oe ∧ Zc cls d oe ∧ oe.data = .fields vs) := hok a _ e
  exact x.1
theorem call_isX {X : Cx} {ps : List (CR)} : CallR X (.builtin "isinstance") (fun xs H Q => ∃ x c, xs = [x, c] ∧ rIsX X.K ps x c H Q) := by
  intro pins s σ H xs us Q I r h
  obtain ⟨x, c, rfl, a, D, d, b, rfl, ea, hd, T, hk, hc, q⟩ := h
  obtain ⟨u1, u2, rfl, r1, r2⟩ := vals2 r
  cases (show u1 = Value.ref a from r1)
  obtain ⟨oe, vs, he, hz, hv⟩ := ecO_at I.hok ea
  have hi : ∃ od, PySem.W.InstAt s.heap a oe D od := by
    rcases hd with rfl | ⟨dx, fs, rfl, ed⟩
    · exact ⟨none, he, hz.1, by unfold PySem.W.notCls; rw [hv] <;> rfl, by rw [hz.2]; trivial⟩
    · have hx : ObjOk X.prog X.w H s.heap dx (.xd fs) := I.hok dx _ ed
      obtain ⟨mA, ⟨od, es, ep, eo, _⟩, _⟩ := hx
      exact ⟨some od, he, hz.1, by unfold PySem.W.notCls; rw [hv] <;> rfl, by rw [hz.2]; exact eo⟩
  obtain ⟨od, J⟩ := hi
  have Z := PySem.W.kitx_exc (x := a) (ox := oe) (od := od) T.cl T.ga T.gt T.sb T.ac T.sp T.tk T.mo
  rcases hc with ⟨p, rfl, rfl⟩ | ⟨tp, rfl, hT⟩
  · have ec := (cvv_ok X.K p).eq r2
    subst ec
    exact PySem.W.kia_one Z I.kIn J (kitAny_one hk) (fun z => nomatch z) fun tk => ⟨.bl b, H, I.kept (t' := tk) fun _ _ z => z, rfl, q⟩
  · cases (show u2 = Value.ref tp from r2)
    obtain ⟨_, its, rv, o, h1, h2, n, h3⟩ := (show ObjOk X.prog X.w H s.heap tp (.tup (ps.map (cvv X.K))) from I.hok tp _ hT)
    have e3 := ClsV.all (paired_cvv X.K ps) rv
    subst e3
    obtain ⟨oc, od', dt, sl⟩ := o
    simp only at h2 h3
    subst h2 h3
    exact PySem.W.kia_tup Z I.kIn J h1 hk (fun z => nomatch z) fun tk => ⟨.bl b, H, I.kept (t' := tk) fun _ _ z => z, rfl, q⟩
def gIsX (tb : List (Str × Bool)) : D → Option (Nat × D)
  | .exn c _ _ => (match tb.lookup c with
    | some b => some (0, .bl b)
    | none => none)
  | _ => none
theorem exn_dict {K : PySem.W.Frag} {H : Hp} {N : As} {c : Str} {ns : List Str} {ds : List D} {v : V} (h : Rp K H N 0 (.exn c ns ds) v []) : ∃ a d, v = .ref a ∧ H a = some (EcO (.ref (He.ga K c)) d a) ∧ (d = none ∨ ∃ dx fs, d = some dx ∧ H dx = some (.xd fs)) := by
  simp only [Rp] at h
  obtain ⟨a, d, e, ea, _, q⟩ := h
  refine ⟨a, d, e, ea, ?_⟩
  rcases q with ⟨_, _, q⟩ | ⟨dx, vs, q1, q2, _⟩
  · exact .inl q
  · exact .inr ⟨dx, _, q1, q2⟩
section
variable {X : Cx} {W : WX} {e c : Expr} {fa : EV} {p pos : Pos}
theorem d_isx {cp : CR} {tb : List (Str × Bool)} (hm : X.mg "isinstance" = none) (hg : Gl X "isinstance") (hp : PE X c (tC (cvv X.K cp))) (ht : ∀ q ∈ tb, XcC X.K (He.ga X.K q.1) ∧ PySem.W.kitAny X.K (.ref (He.ga X.K q.1)) ([cp].map (cvl X.K)) = some q.2) (h : DE X W e fa)
    (he : starEach [e, c] X.env = (false, eval e X.env) :: starEach [c] X.env := by rfl) (he2 : starEach [c] X.env = (false, eval c X.env) :: starEach [] X.env := by rfl) (hpl : (backTo pos (starEach [c] X.env)).any (·.1) = false := by rfl) :
    DE X W (.Call (.Name "isinstance" p) [e, c] [] pos) (e1 (gIsX tb) fa) :=
  de_1 (r := fun v H Q => ∃ x c, [v, cvv X.K cp] = [x, c] ∧ rIsX X.K [cp] x c H Q) (fun ta ha => pe_callB call_isX hg hm (by decide +kernel) (pa_cons ha (pa_cons hp pa_nil he2) he) (he := he) (hpl := hpl)) (by
    intro H B d v Q h ok
    unfold gIsX at ok
    split at ok
    · split at ok
      · rename_i b hb
        obtain ⟨T, hk⟩ := ht _ (lookup_mem hb)
        obtain ⟨a, d, e1, e2, e3⟩ := exn_dict h
        exact ⟨v, _, rfl, a, _, d, b, e1, e2, e3, T, hk, .inl ⟨cp, rfl, rfl⟩, ok.bl⟩
      · exact ok.elim
    · exact ok.elim) h
theorem d_isxt {cps : List (CR)} {cs : List Expr} {k : Nat} {tpos : Pos} {tb : List (Str × Bool)} (hm : X.mg "isinstance" = none) (hg : Gl X "isinstance") (hp : PA X cs (fun σ H Q => Q (cps.map (cvv X.K)) H)) (hsz : cps.length ≤ 1000)
    (ht : ∀ q ∈ tb, XcC X.K (He.ga X.K q.1) ∧ PySem.W.kitAny X.K (.ref (He.ga X.K q.1)) (cps.map (cvl X.K)) = some q.2) (h : DE X W e fa)
    (he : starEach [e, .Tuple cs k tpos] X.env = (false, eval e X.env) :: starEach [.Tuple cs k tpos] X.env := by rfl) (he2 : starEach [.Tuple cs k tpos] X.env = (false, eval (.Tuple cs k tpos) X.env) :: starEach [] X.env := by rfl) (hpl : (backTo pos (starEach [.Tuple cs k tpos] X.env)).any (·.1) = false := by rfl) :
    DE X W (.Call (.Name "isinstance" p) [e, .Tuple cs k tpos] [] pos) (e1 (gIsX tb) fa) :=
  de_1 (r := fun v H Q => (cps.map (cvv X.K)).length ≤ sizeLine ∧ ∀ p, H p = none → ∃ x c, [v, .ref p] = [x, c] ∧ rIsX X.K cps x c (upd H p (.tup (cps.map (cvv X.K)))) Q) (fun ta ha => pe_callB call_isX hg hm (by decide +kernel) (pa_cons ha (pa_cons (pe_tup hp) pa_nil he2) he) (he := he) (hpl := hpl)) (by
    intro H B d v Q h ok
    refine ⟨by rw [List.length_map, sizeLine_eq]; omega, fun tp hp => ?_⟩
    unfold gIsX at ok
    split at ok
    · split at ok
      · rename_i b hb
        obtain ⟨T, hk⟩ := ht _ (lookup_mem hb)
        obtain ⟨a, d, e1, e2, e3⟩ := exn_dict h
        refine ⟨v, _, rfl, a, _, d, b, e1, upd_ext hp _ _ e2, ?_, T, hk, .inr ⟨tp, rfl, upd_same⟩, ok (.bl b) (upd H tp (.tup (cps.map (cvv X.K)))) [] (upd_ext hp) List.nodup_nil (fun _ z => by cases z) (by simp [Rp])⟩
        rcases e3 with e3 | ⟨dx, fs, e3, e4⟩
        · exact .inl e3
        · exact .inr ⟨dx, fs, e3, upd_ext hp _ _ e4⟩
      · exact ok.elim
    · exact ok.elim) h
end
end DL
namespace DL
open PySem PySem.Spec L2
open PyProof.Rows hiding St
def tXg (K : PySem.W.Frag) (n : Str) : V → Hp → VK → Prop := fun x H Q => ∃ (a C dd : Addr) (fs : List (Str × V)) (v : V), x = .ref a ∧ H a = some (EcO (.ref C) (some dd) a) ∧ XcC K C ∧ PySem.W.findIn K (.ref C) n = some none ∧ H dd = some (.xd fs) ∧ fs.lookup n = some v ∧ Q v H
theorem pe_xg {X : Cx} {e : Expr} {te : TE} {pos : Pos} {n : Str} (he : PE X e te) (hb : attributeBase e n X.env (eval e X.env) = eval e X.env := by rfl) : PE X (.Attribute e n pos) (tUn (tXg X.K n) te) := by
  refine ⟨fun pins s σ H Q I h => ?_⟩
  refine attr_of hb (thn (he.run pins s σ H _ I h) fun u s1 hh => ?_)
  obtain ⟨x, H1, I1, rx, a, C, dd, fs, v, ex, ea, T, hno, ed, l, q⟩ := hh
  subst ex
  obtain rfl : u = Value.ref a := rx
  obtain ⟨oe, vs, ha, hz, hd⟩ := ecO_at I1.hok ea
  have hx : ObjOk X.prog X.w H1 s1.heap dd (.xd fs) := I1.hok dd _ ed
  obtain ⟨mA, hns, hr⟩ := hx
  obtain ⟨od, ho, hl⟩ := lookIn_ns hns
  obtain ⟨u, hu, ru⟩ := RelO.some_of (v := v) (o := mA n) (by rw [← l]; exact hr n)
  have J : PySem.W.InstAt s1.heap a oe C (some od) := ⟨ha, hz.1, by unfold PySem.W.notCls; rw [hd] <;> rfl, by rw [hz.2]; exact ho⟩
  exact HandSPX.exc_get I1.kIn J T.ga T.gt T.sb (PySem.W.findObj_own T.hd hno rfl (by rw [hl, hu])) (handed_of ru) ⟨v, H1, I1.tok _, ru, q⟩
theorem zip_lookup {K : PySem.W.Frag} {H : Hp} {N : As} {n : Str} {d : D} : ∀ {ns : List Str} {ds : List D} {vs : List V}, Rps K H N 0 ds vs [] → ns.length = vs.length → (ns.zip ds).lookup n = some d → ∃ v, (ns.zip vs).lookup n = some v ∧ Rp K H N 0 d v []
  | [], _, _, _, _, h => by cases h
  | m :: ns, [], _, _, _, h => by cases h
  | m :: ns, e :: ds, vs, r, hl, h => by
    simp only [Rps] at r
    obtain ⟨v, vr, l1, l2, rfl, el, r1, r2⟩ := r
    have z1 := r1.zero; have z2 := r2.zero
    subst z1 z2
    rw [List.zip_cons_cons, List.lookup_cons] at h ⊢
    split at h
    · rename_i q; cases h; exact ⟨v, rfl, r1⟩
    · exact zip_lookup r2 (by simpa using hl) h
def gAt (cl : List Str) (n : Str) : D → Option (Nat × D)
  | .exn c ns ds => if cl.contains c then (match (ns.zip ds).lookup n with
    | some d => some (0, d)
    | none => none) else none
  | _ => none
theorem d_attr {X : Cx} {W : WX} {e : Expr} {f : EV} {n : Str} {pos : Pos} {cl : List Str} (hT : ∀ c ∈ cl, XcC X.K (He.ga X.K c) ∧ PySem.W.findIn X.K (.ref (He.ga X.K c)) n = some none) (h : DE X W e f) (hb : attributeBase e n X.env (eval e X.env) = eval e X.env := by rfl) :
    DE X W (.Attribute e n pos) (e1 (gAt cl n) f) :=
  de_1 (r := tXg X.K n) (fun t ht => pe_xg ht hb) (by
    intro H B d v Q h ok
    unfold gAt at ok
    split at ok
    · rename_i c ns ds
      split at ok
      · rename_i hc
        obtain ⟨T, hno⟩ := hT c (by simpa using hc)
        split at ok
        · rename_i dd hl
          simp only [Rp] at h
          obtain ⟨a, dx, e1, e2, _, q⟩ := h
          rcases q with ⟨q1, q2, q3⟩ | ⟨dd', vs, q1, q2, q3, q4⟩
          · subst q1; cases hl
          · subst q1
            obtain ⟨w, l, rw'⟩ := zip_lookup q4 q3 hl
            exact ⟨a, _, dd', _, w, e1, e2, T, hno, q2, l, ok.at rw'⟩
        · exact ok.elim
      · exact ok.elim
    · exact ok.elim) h
def sRaise0 (x : Str) : SV := fun δ => .exc ⟨x, [], []⟩ δ
theorem ds_raise0 {X : Cx} {W : WX} {F : List Nat} {x m : Str} {j : Nat} {p p2 pos pos' : Pos} (hc : X.calm = true) (tk : Takes X W) (q : (He.Fa.exc x).ok X.K = true) (gC : X.mg x = some (.ref (He.ga X.K x))) (hg : Gl X x) (hdb : (x == ("__debug__" : Str)) = false := by decide) :
    DS X W F (.Raise (some (.Call (.Name x p) [.Constant (.str m) j p2] [] pos')) none pos) (sRaise0 x) := by
  obtain ⟨h1, h2, h3, h4⟩ := He.exc_ok q
  exact ⟨_, ps_raise hc tk (pmk_own PySem.F.excBase_ValueError h1 gC h2 (raises_own h3 h4) hg hdb), fun σ H δ L R D s ok => ok (.ref (He.ga X.K x)) none σ H L s.kp Nw.refl s Fix.refl ⟨rfl, .inl ⟨rfl, rfl, rfl⟩⟩⟩
def spI (K : PySem.W.Frag) (ns : List Str) : Sp := fun vs H Q _ => ∃ (a C : Addr) (ys : List V), vs = .ref a :: ys ∧ ys.length = ns.length ∧ IniC K C ns ∧ H a = some (exo a C none) ∧
  ∀ dx H2, H dx = none → dx ≠ a → (∀ b, b ≠ a → b ≠ dx → H2 b = H b) → H2 a = some (exo a C (some dx)) → H2 dx = some (exd dx (ns.reverse.zip ys.reverse)) → Q .non H2
structure XI (P : Program) (w : World) (K : PySem.W.Frag) (mg : Str → Option Value) (base : Heap) (k : Nat) (x : Str) (ns : List Str) : Prop where
  ex : ∃ fd ps, mg x = some (.ref (He.ga K x)) ∧ IniC K (He.ga K x) ns ∧ Binds K fd ps [] ∧ FnOk P w K mg base (L2.CX P w) k (He.ma K (He.ga K x) "__init__") fd ps (spI K ns)
def ARes.krai (r : ARes) (x : Str) (ns : List Str) : SRes := match r with
  | .ok ps δ' => if ps.length = ns.length then .exc ⟨x, ns.reverse, (ps.map (·.2)).reverse⟩ δ' else .bad
  | .exc y δ' => .exc y δ'
  | .bad => .bad
def sRaiseN (x : Str) (ns : List Str) (fs : DL.Env → ARes) : SV := fun δ => (fs δ).krai x ns
theorem Rps.rv {K : PySem.W.Frag} {H : Hp} {N : As} : ∀ {ds : List D} {vs : List V}, Rps K H N 0 ds vs [] → Rps K H N 0 ds.reverse vs.reverse []
  | [], vs, h => by simp only [Rps] at h; rw [h.1]; simp [Rps]
  | d :: ds, vs, h => by
    simp only [Rps] at h
    obtain ⟨v, vr, l1, l2, rfl, el, r1, r2⟩ := h
    have z1 := r1.zero; have z2 := r2.zero
    subst z1 z2
    rw [List.reverse_cons, List.reverse_cons]
    exact (Rps.rv r2).app (l := []) (k := []) (by simp only [Rps]; exact ⟨v, [], [], [], rfl, rfl, r1, rfl, rfl⟩)
theorem rpL_len {K : PySem.W.Frag} {H : Hp} {N : As} : ∀ {ps : List (Nat × D)} {vs : List V} {l : As}, RpL K H N ps vs l → ps.length = vs.length
  | [], _, _, h => by rw [h.1]; rfl
  | p :: ps, _, _, h => by obtain ⟨v, vr, l1, l2, rfl, _, _, r⟩ := h; simp [rpL_len r]
theorem ds_raiseN {X : Cx} {W : WX} {F : List Nat} {x : Str} {ns : List Str} {e : Expr} {es : List Expr} {fs : DL.Env → ARes} {k j : Nat} {p pos pos' : Pos} (hc : X.calm = true) (tk : Takes X W) (c : XI X.prog X.w X.K X.mg X.base k x ns) (hr : Room j X.A) (hk : k + 1 ≤ j) (hns : ns.length ≤ 900) (hg : Gl X x) (h : DA X W (e :: es) fs)
    (hdb : (x == ("__debug__" : Str)) = false := by decide) (he : starEach (e :: es) X.env = (false, eval e X.env) :: starEach es X.env := by rfl) (hpl : (backTo pos (starEach es X.env)).any (·.1) = false := by rfl) :
    DS X W F (.Raise (some (.Call (.Name x p) (e :: es) [] pos)) none pos') (sRaiseN x ns fs) := by
  obtain ⟨fd, ps, h1, T, h3, h4⟩ := c.ex
  obtain ⟨ta, pa, q⟩ := h.ex
  refine ⟨_, ps_raise hc tk (pmk_oex T.ox T.ini T.ty h4 (hr.mono hk) h3 .nil (passes_call tk fun _ _ _ _ z => z.elim) hg h1 pa hdb he hpl), fun σ H δ L R D s ok => q σ H δ L R _ s ?_⟩
  unfold sRaiseN at ok
  cases hf : fs δ with
  | bad => rw [hf] at ok; exact ok
  | exc y δ1 => rw [hf] at ok; exact XOk.st ok
  | ok pr δ1 =>
    rw [hf] at ok
    simp only [ARes.krai] at ok
    split at ok
    · rename_i hl
      intro vs H1 l L1 k1 w1 s1 rp
      have hlen := rpL_len rp
      obtain ⟨z1, z2⟩ := fz_at s1
      have rf : Rps X.K H1 (L1 ++ R) 0 (pr.map (·.2)) vs [] := rp.fz z1 z2
      refine ⟨by omega, fun a na => ⟨a, He.ga X.K x, vs ++ [], rfl, by rw [List.append_nil]; omega, T, upd_same, fun dx H2 hdx hne h2 ha hd => ⟨rfl, dx, _, ha, hd, ?_, ?_⟩⟩⟩
      · rw [upd_ne hne] at hdx; exact hdx
      · rw [upd_ne hne] at hdx
        have k3 : Kp H1 (upd (del H2 a) dx (.xd (ns.reverse.zip (vs ++ []).reverse))) [] := by
          refine ⟨fun b u e _ => ?_, fun _ z => by cases z⟩
          have hba : b ≠ a := fun z => by rw [z, na] at e; cases e
          have hbd : b ≠ dx := fun z => by rw [z, hdx] at e; cases e
          rw [upd_ne hbd, del_ne hba, h2 b hba hbd, upd_ne hba]; exact e
        have s2 : SR X.K σ H1 δ1 L1 R := s1.less (List.sublist_append_right _ _)
        have io : ∀ {b}, IsOwn H1 b → IsOwn (upd (del H2 a) dx (.xd (ns.reverse.zip (vs ++ []).reverse))) b := fun {b} z => z.imp (fun ⟨y, e⟩ => ⟨y, k3.kp _ _ e fun z => by cases z⟩) fun ⟨y, e⟩ => ⟨y, k3.kp _ _ e fun z => by cases z⟩
        have s3 := s2.step k3 (fun _ z => by cases z) s2.nd (fun b hb => .inl hb) fun b hb => io (s2.tr b hb)
        refine ok (.ref (He.ga X.K x)) (some dx) σ _ L1 (Kp.trans k1 w1.right ⟨fun b u e n => k3.kp b u e (fun z => by cases z), s2.own⟩) (Nw.trans k1 w1.right Nw.refl) s3 Fix.refl ⟨rfl, .inr ⟨dx, vs.reverse, rfl, ?_, ?_, ?_⟩⟩
        · rw [upd_same, List.append_nil]
        · show ns.reverse.length = _
          rw [List.length_reverse, List.length_reverse]; omega
        · exact (rf.rv).step k3 (fun _ z => by cases z) (fun b hb => .inl hb) fun _ z => by cases z
    · exact ok.elim
section
variable {X : Cx} {o e : Expr} {es : List Expr} {to te : TE} {ta : TA} {p1 p2 pos : Pos} {x : Str}
theorem pe_bai {C : Addr} {pl : Sem Bool} (hg : Gl X x) (hm : X.mg x = some (.ref C)) (T : BaiC X.K C) (ha : PA X (e :: es) ta) (hdb : (x == ("__debug__" : Str)) = false := by decide)
    (hc : eval (.Call (.Attribute (.Name x p1) "__init__" p2) (e :: es) [] pos) X.env = (do
      let ov ← eval (.Name x p1) X.env
      standAt p2.atName
      let (f, first) ← holding [ov] (getMethod ov "__init__" pl)
      callWith pos f first (backTo pos (starEach (e :: es) X.env)) (backToKw pos (keywordEach [] X.env))) := by rfl)
    (he : starEach (e :: es) X.env = (false, eval e X.env) :: starEach es X.env := by rfl) (hpl : (backTo pos (starEach es X.env)).any (·.1) = false := by rfl) :
    PE X (.Call (.Attribute (.Name x p1) "__init__" p2) (e :: es) [] pos) (tVeI X.K ta) := by
  refine ⟨fun pins s σ H Q I h => ?_⟩
  refine PySem.W.methodCall_KW (ld_glob I hg hm ?_ hdb) hc
  obtain ⟨m, fr⟩ := I.fr
  refine PySem.W.method_of_cls fr I.ok.mod.kin T.tg (PySem.W.cls_val fr I.ok.mod.kin T.ty T.rd T.fc rfl ?_)
  show wpAny _ _ (callWith pos (Value.builtin "ValueError.__init__") [] (backTo pos (starEach (e :: es) X.env)) []) _ _ _
  refine PyProof.Rows.callWith_method1 (thn (ha.run pos pins _ σ H _ (I.tok _) h) fun us s1 ⟨vs, H1, I1, r1, a, C, ws, ev, hl, T, ea, q⟩ => ?_) he hpl
  subst ev
  cases r1 with
  | @cons _ u0 _ ur ra rw' =>
    obtain rfl : u0 = Value.ref a := ra
    have hlen : ur.length ≤ sizeLine := by
      rw [← Paired.length rw', sizeLine_eq]
      omega
    exact oinit_ok T I1 ea hlen fun s' J => ⟨.non, H1, J, rfl, q⟩
end
end DL
namespace DL
open PySem PySem.Spec L2
open PyProof.Rows hiding St
def clsAt (s : Stmt) (j : Nat) : Stmt := match s with
  | .ClassDef _ _ _ body _ _ _ _ _ _ _ => body.getD j s
  | _ => s
theorem xi_of {P : Program} {w : World} {K : PySem.W.Frag} {mg : Str → Option Value} {base : Heap} {x qual : Str} {ns : List Str} {params : Arguments} {st : List Stmt} {scope : Scope} {fd : FuncData} {N ps : List Str}
    (Fn : FunD K "__init__" qual params st scope [] [] (He.ma K (He.ga K x) "__init__") fd) (hm : mg x = some (.ref (He.ga K x))) (T : IniC K (He.ga K x) ns)
    (hbind : ∀ (kV doc pm : Value) (an : Option Addr) (cdv ct : Value) (us : List Value), us.length = ps.length → bindArgs (PySem.W.fnOf "__init__" qual params st scope .none kV doc pm an cdv ct) ⟨us, []⟩ = pure (ps.zip us))
    (S : FnScope N ps scope) (hl : ps.length = ns.length + 1)
    (hbody : ∀ (cdv : Value) (A : Around) (outer : List PySem.Env) (s : Shared) (H : Hp) (E : XK), ∃ t, PSs (cxOf (L2.CX P w) P w K mg base N qual scope (He.ma K (He.ga K x) "__init__") cdv A outer s H E) st t ∧
      ∀ vs H Q E', spI K ns vs H Q E' → t { nx := fun _ H' => Q .non H', rt := Q } (L2.start N vs) H) : XI P w K mg base 1 x ns :=
  ⟨fd, ps, hm, T, FunD.bindsN Fn hbind, FunD.ok Fn S (fun vs H Q E ⟨a, C, ys, e, h, _⟩ => by rw [e, List.length_cons, h, hl]) fun cdv A outer s H vs Q E hr hsp =>
    let ⟨t, p, q⟩ := hbody cdv A outer s H E
    ⟨t, p, q vs H Q E hsp⟩⟩
theorem ini1 {K : PySem.W.Frag} {a0 f m : Str} (vs : List V) (H : Hp) (Q : VK) (E' : XK) (h : spI K [f] vs H Q E') :
    (tSeq (tDrop (tVeI K (tCons (tVar 0) (tCons (tC (.str m)) tNil)))) (tSeq (tOst K f (tVar 0) (tVar 1)) tNext)) { nx := fun _ H' => Q .non H', rt := Q } (L2.start [a0, f] vs) H := by
  obtain ⟨a, C, ys, rfl, hl, T, ha, hq⟩ := h
  obtain ⟨y, rfl⟩ : ∃ y, ys = [y] := List.length_eq_one_iff.mp hl
  have s0 : (L2.start [a0, f] [V.ref a, y])[0]? = some (some (.ref a)) := rfl
  have s1 : (L2.start [a0, f] [V.ref a, y])[1]? = some (some y) := rfl
  exact ⟨_, s0, a, C, [.str m], rfl, Nat.le_of_ble_eq_true rfl, T.ox, ha, ⟨y, s1, .ref a, s0, a, C, rfl, T.ox, T.no f List.mem_cons_self, .inl ⟨ha, fun dx hdx hne => hq dx _ hdx hne (fun b h1 h2 => by rw [upd_ne h1, upd_ne h2]) upd_same (by rw [upd_ne hne, upd_same]; rfl)⟩⟩⟩
theorem ini2 {K : PySem.W.Frag} {a0 f g m : Str} (vs : List V) (H : Hp) (Q : VK) (E' : XK) (h : spI K [f, g] vs H Q E') :
    (tSeq (tDrop (tVeI K (tCons (tVar 0) (tCons (tC (.str m)) tNil)))) (tSeq (tOst K f (tVar 0) (tVar 1)) (tSeq (tOst K g (tVar 0) (tVar 2)) tNext))) { nx := fun _ H' => Q .non H', rt := Q } (L2.start [a0, f, g] vs) H := by
  obtain ⟨a, C, ys, rfl, hl, T, ha, hq⟩ := h
  obtain ⟨y, z, rfl⟩ : ∃ y z, ys = [y, z] := by
    match ys, hl with
    | [y, z], _ => exact ⟨y, z, rfl⟩
  have s0 : (L2.start [a0, f, g] [V.ref a, y, z])[0]? = some (some (.ref a)) := rfl
  have s1 : (L2.start [a0, f, g] [V.ref a, y, z])[1]? = some (some y) := rfl
  have s2 : (L2.start [a0, f, g] [V.ref a, y, z])[2]? = some (some z) := rfl
  exact ⟨_, s0, a, C, [.str m], rfl, Nat.le_of_ble_eq_true rfl, T.ox, ha, ⟨y, s1, .ref a, s0, a, C, rfl, T.ox, T.no f List.mem_cons_self, .inl ⟨ha, fun dx hdx hne =>
    ⟨z, s2, .ref a, s0, a, C, rfl, T.ox, T.no g (List.mem_cons_of_mem _ List.mem_cons_self), .inr ⟨dx, [(f, y)], upd_same, by rw [upd_ne hne, upd_same], Nat.le_of_ble_eq_true rfl,
      hq dx _ hdx hne (fun b h1 h2 => by rw [upd_ne h2, upd_ne h1, upd_ne h2]) (by rw [upd_ne (Ne.symm hne), upd_same]) (by rw [upd_same]; rfl)⟩⟩⟩⟩⟩
theorem d_gtup {X : Cx} {W : WX} {x : Str} {ds : List D} {pos : Pos} (hg : Gl X x) (hm : X.mg x = some (.ref (He.ga X.K x))) (h : (Fx.tup x ds).ok X.K = true) (hd : (x == ("__debug__" : Str)) = false := by decide) : DE X W (.Name x pos) (eC (.tup ds)) :=
  de_c (pe_glob (v := .ref (He.ga X.K x)) hg hm rfl hd) fun H N => fx_tup h H N
def lookD (c : Str) (tb : List (Str × Bool)) : Option Bool := tb.lookup c
def isxO : Option Bool → Option (Nat × D)
  | some b => some (0, .bl b)
  | none => none
def hasD (c : Str) (cl : List Str) : Bool := cl.contains c
def fldD (n : Str) (ns : List Str) (ds : List D) : Option D := (ns.zip ds).lookup n
def atxO (b : Bool) (o : Option D) : Option (Nat × D) := if b then (match o with
  | some d => some (0, d)
  | none => none) else none
section
variable {f g : SV} {hs : List Hdl} {x xe : XD} {δ δ' : DL.Env} {i j m : Nat} {d : D} {tb : List (Str × Bool)} {c c' : Str} {ns : List Str} {ds : List D} {fs : DL.Env → ARes} {ps : List (Nat × D)}
theorem sTry_k : sTry f hs δ = (f δ).ktry hs := Eq.trans rfl rfl
theorem ktry_nx : (SRes.nx δ).ktry hs = .nx δ := Eq.trans rfl rfl
theorem ktry_brk : (SRes.brk δ).ktry hs = .brk δ := Eq.trans rfl rfl
theorem ktry_cnt : (SRes.cnt δ).ktry hs = .cnt δ := Eq.trans rfl rfl
theorem ktry_ret : (SRes.ret m d δ).ktry hs = .ret m d δ := Eq.trans rfl rfl
theorem ktry_exc : (SRes.exc x δ).ktry hs = hTry hs x δ := Eq.trans rfl rfl
def selH (o : Option Bool) (i : Option Nat) (g : SV) (r : List Hdl) (x : XD) (δ : DL.Env) : SRes := match o with
  | some true => hGo i g x δ
  | some false => hTry r x δ
  | none => .bad
theorem hTry_nil : hTry [] x δ = .exc x δ := Eq.trans rfl rfl
theorem hTry_cons {i : Option Nat} {r : List Hdl} : hTry ((tb, i, g) :: r) x δ = selH (lookD x.cls tb) i g r x δ := by
  show _ = selH (tb.lookup x.cls) i g r x δ
  unfold hTry selH
  rfl
theorem selH_t {i : Option Nat} {r : List Hdl} : selH (some true) i g r x δ = hGo i g x δ := Eq.trans rfl rfl
theorem selH_f {i : Option Nat} {r : List Hdl} : selH (some false) i g r x δ = hTry r x δ := Eq.trans rfl rfl
theorem hGo_s : hGo (some j) g x δ = nxH (some j) g (setOne (true, j) 0 (.exn x.cls x.ns x.ds) δ) := Eq.trans rfl rfl
theorem hGo_n : hGo none g x δ = endH none (g δ) := Eq.trans rfl rfl
theorem nxH_k {i : Option Nat} : nxH i g (some δ) = endH i (g δ) := Eq.trans rfl rfl
theorem endH_nx {i : Option Nat} : endH i (.nx δ) = .nx (wipeH i δ) := Eq.trans rfl rfl
theorem endH_brk {i : Option Nat} : endH i (.brk δ) = .brk (wipeH i δ) := Eq.trans rfl rfl
theorem endH_cnt {i : Option Nat} : endH i (.cnt δ) = .cnt (wipeH i δ) := Eq.trans rfl rfl
theorem endH_ret {i : Option Nat} : endH i (.ret m d δ) = .ret m d δ := Eq.trans rfl rfl
theorem wipeH_s : wipeH (some j) δ = δ.set j none := Eq.trans rfl rfl
theorem wipeH_n : wipeH none δ = δ := Eq.trans rfl rfl
theorem xd_cls : (XD.mk c ns ds).cls = c := Eq.trans rfl rfl
theorem xd_ns : (XD.mk c ns ds).ns = ns := Eq.trans rfl rfl
theorem xd_ds : (XD.mk c ns ds).ds = ds := Eq.trans rfl rfl
theorem gIsX_k : gIsX tb (.exn c ns ds) = isxO (lookD c tb) := Eq.trans rfl rfl
theorem isxO_s {b : Bool} : isxO (some b) = some (0, .bl b) := Eq.trans rfl rfl
theorem gAt_k {cl : List Str} : gAt cl c (.exn c' ns ds) = atxO (hasD c' cl) (fldD c ns ds) := Eq.trans rfl rfl
theorem atxO_t : atxO true (some d) = some (0, d) := Eq.trans rfl rfl
theorem isNon_x : (D.exn c ns ds).isNon = false := Eq.trans rfl rfl
theorem clean_exn : clean m (.exn c ns ds) = cleans 0 ds := by cases m <;> rfl
theorem sRaise0_k : sRaise0 c δ = .exc ⟨c, [], []⟩ δ := Eq.trans rfl rfl
theorem sRaiseN_k : sRaiseN c ns fs δ = (fs δ).krai c ns := Eq.trans rfl rfl
theorem krai_1 {p : Nat × D} {a : Str} : (ARes.ok [p] δ).krai c [a] = .exc ⟨c, [a], [p.2]⟩ δ := Eq.trans rfl rfl
theorem krai_2 {p q : Nat × D} {a b : Str} : (ARes.ok [p, q] δ).krai c [a, b] = .exc ⟨c, [b, a], [q.2, p.2]⟩ δ := Eq.trans rfl rfl
theorem isi_exn {t : String} : gIsi t (.exn c ns ds) = none := Eq.trans rfl rfl
theorem k1_exc {g : D → Option (Nat × D)} : (Res.exc xe δ).k1 g = .exc xe δ := Eq.trans rfl rfl
theorem k2b_exc {d : D} {g : D → D → Option (Nat × D)} : (Res.exc xe δ).k2b d g = .exc xe δ := Eq.trans rfl rfl
theorem k2_exc {g : D → D → Option (Nat × D)} {fb : EV} : (Res.exc xe δ).k2 g fb = .exc xe δ := Eq.trans rfl rfl
theorem kn_exc {g : List D → Option (Nat × D)} : (ARes.exc xe δ).kn g = .exc xe δ := Eq.trans rfl rfl
theorem kc_exc {m : Nat} {d : D} : (ARes.exc xe δ).kc m d = .exc xe δ := Eq.trans rfl rfl
theorem ka_exc {g : DL.Env → ARes} : (Res.exc xe δ).ka g = .exc xe δ := Eq.trans rfl rfl
theorem kt_exc : (Res.exc xe δ).kt  = .exc xe δ := Eq.trans rfl rfl
theorem tand_exc {g : DL.Env → TRes} : (TRes.exc xe δ).and g = .exc xe δ := Eq.trans rfl rfl
theorem tor_exc {g : DL.Env → TRes} : (TRes.exc xe δ).or g = .exc xe δ := Eq.trans rfl rfl
theorem tnot_exc : (TRes.exc xe δ).not  = .exc xe δ := Eq.trans rfl rfl
theorem tsel_exc {f g : EV} : (TRes.exc xe δ).sel f g = .exc xe δ := Eq.trans rfl rfl
theorem kand_exc {g : EV} : (Res.exc xe δ).kand g = .exc xe δ := Eq.trans rfl rfl
theorem kor_exc {g : EV} : (Res.exc xe δ).kor g = .exc xe δ := Eq.trans rfl rfl
theorem knot_exc : (Res.exc xe δ).knot  = .exc xe δ := Eq.trans rfl rfl
theorem kch3_exc {y : D} {g' : D → D → Option (Nat × D)} : (Res.exc xe δ).kch3 y g' = .exc xe δ := Eq.trans rfl rfl
theorem kch1_exc {x : D} {g g' : D → D → Option (Nat × D)} {fc : EV} : (Res.exc xe δ).kch1 x g g' fc = .exc xe δ := Eq.trans rfl rfl
theorem kch_exc {g g' : D → D → Option (Nat × D)} {fb fc : EV} : (Res.exc xe δ).kch g g' fb fc = .exc xe δ := Eq.trans rfl rfl
theorem ktup_exc : (ARes.exc xe δ).ktup  = .exc xe δ := Eq.trans rfl rfl
theorem klst_exc : (ARes.exc xe δ).klst  = .exc xe δ := Eq.trans rfl rfl
theorem ksl3_exc {d : D} {lo : Option Int} : (ORes.exc xe δ).ksl3 d lo = .exc xe δ := Eq.trans rfl rfl
theorem ksl2_exc {d : D} {fh : DL.Env → ORes} : (ORes.exc xe δ).ksl2 d fh = .exc xe δ := Eq.trans rfl rfl
theorem ksl_exc {fl fh : DL.Env → ORes} : (Res.exc xe δ).ksl fl fh = .exc xe δ := Eq.trans rfl rfl
theorem ko_exc : (Res.exc xe δ).ko  = .exc xe δ := Eq.trans rfl rfl
theorem kixo_exc {j : Nat} {p : List Nat} : (Res.exc xe δ).kixo j p = .exc xe δ := Eq.trans rfl rfl
theorem tselS_exc {f g : SV} : (TRes.exc xe δ).selS f g = .exc xe δ := Eq.trans rfl rfl
theorem kret_exc : (Res.exc xe δ).kret  = .exc xe δ := Eq.trans rfl rfl
theorem kdrop_exc : (Res.exc xe δ).kdrop  = .exc xe δ := Eq.trans rfl rfl
theorem kasg_exc {t : Tgt} : (Res.exc xe δ).kasg t = .exc xe δ := Eq.trans rfl rfl
theorem kpar2_exc {s1 s2 : Slot1} {m : Nat} {d : D} : (Res.exc xe δ).kpar2 s1 s2 m d = .exc xe δ := Eq.trans rfl rfl
theorem kpar_exc {s1 s2 : Slot1} {fb : EV} : (Res.exc xe δ).kpar s1 s2 fb = .exc xe δ := Eq.trans rfl rfl
theorem kapp_exc {j : Nat} {p : List Nat} : (Res.exc xe δ).kapp j p = .exc xe δ := Eq.trans rfl rfl
theorem ksto2_exc {j : Nat} {p : List Nat} {m : Nat} {d : D} : (Res.exc xe δ).ksto2 j p m d = .exc xe δ := Eq.trans rfl rfl
theorem ksto_exc {j : Nat} {p : List Nat} {fi : EV} : (Res.exc xe δ).ksto j p fi = .exc xe δ := Eq.trans rfl rfl
theorem kfor_exc {t : Tgt} {body : SV} : (IRes.exc xe δ).kfor t body = .exc xe δ := Eq.trans rfl rfl
theorem kiseq_exc : (Res.exc xe δ).kiseq  = .exc xe δ := Eq.trans rfl rfl
theorem kr1_exc : (ARes.exc xe δ).kr1  = .exc xe δ := Eq.trans rfl rfl
theorem kr2_exc : (ARes.exc xe δ).kr2  = .exc xe δ := Eq.trans rfl rfl
theorem ken_exc : (ARes.exc xe δ).ken  = .exc xe δ := Eq.trans rfl rfl
theorem kzip_exc : (ARes.exc xe δ).kzip  = .exc xe δ := Eq.trans rfl rfl
theorem krev_exc : (ARes.exc xe δ).krev  = .exc xe δ := Eq.trans rfl rfl
theorem kcall_exc {pm : List Nat} {ks : List (Option Nat)} {φ : FV} : (ARes.exc xe δ).kcall pm ks φ = .exc xe δ := Eq.trans rfl rfl
theorem kixm_exc {i : Nat} : (Res.exc xe δ).kixm i = .exc xe δ := Eq.trans rfl rfl
theorem krai_exc {x : Str} {ns : List Str} : (ARes.exc xe δ).krai x ns = .exc xe δ := Eq.trans rfl rfl
end
end DL
namespace DL
open PySem PySem.Spec L2
open PyProof.Rows hiding St
def rCntA (K : PySem.W.Frag) : V → List V → Hp → VK → Prop := fun x xs H Q => ∃ (p : Addr) (ys : List V) (y : V), x = .ref p ∧ xs = [y] ∧ SqL K H p ys ∧ flatV y = true ∧ ys.all flatV = true ∧ Q (.int (ys.countP fun z => eqV z y : Nat)) H
theorem cnt_eqU {y : V} : ∀ {ys : List V} {us : List Value}, Vals ys us → ys.all flatV = true → us.countP (eqU y) = ys.countP fun z => eqV z y
  | _, _, .nil, _ => rfl
  | z :: ys, u :: us, .cons r t, f => by
    rw [List.all_cons, Bool.and_eq_true] at f
    rw [List.countP_cons, List.countP_cons, cnt_eqU t f.2, eqU_of r f.1]
theorem mt_countA {X : Cx} : MtR X "list.count" (rCntA X.K) := by
  intro pins s σ H x xs v us Q I rx rxs h
  obtain ⟨p, ys, y, rfl, rfl, hs, fy, fys, q⟩ := h
  cases rx
  cases rxs with
  | cons ry rt =>
    rename_i uy ut
    cases rt
    obtain ⟨its, rv, ⟨⟨cls, dd, data, sl⟩, n, ho, hc, hdn, hd⟩, hlen⟩ := I.list hs
    simp only at hc hd
    subst hc hd
    refine call_meets PySem.F.slot_list_count ⟨_, ho, rfl⟩ PySem.F.entry_list_count (PySem.F.args_list_count_2 _ _)
      (SeqAt.list_countAt p its.toArray n dd sl uy (eqU y)) ⟨ho, fun u' hu' => mem_eqAt ry fy rv fys u' (by simpa using hu'), ?_⟩
    have ec : its.toArray.toList.countP (eqU y) = ys.countP fun z => eqV z y := cnt_eqU rv fys
    refine ⟨.int (ys.countP fun z => eqV z y : Nat), H, I.tok _, ⟨s.toks, ?_⟩, q⟩
    show Value.int ((its.toArray.toList.countP (eqU y) : Nat) : Int) s.toks = _
    rw [ec]
theorem cnt_eqA {K : PySem.W.Frag} {H : Hp} {N : As} {d : D} {v : V} (h : Rp K H N 0 d v []) (a : d.atom = true) : ∀ {ds : List D} {vs : List V}, Rps K H N 0 ds vs [] → ds.all D.atom = true → vs.countP (fun z => eqV z v) = ds.countP fun e => DL.eqA e d
  | [], vs, h, _ => by simp only [Rps] at h; rw [h.1]; rfl
  | x :: ds, vs, h', c => by
    simp only [Rps] at h'; obtain ⟨w, vr, l1, l2, e', el, r1, r2⟩ := h'
    have z1 := r1.zero; have z2 := r2.zero
    subst z1 z2 e'
    simp only [List.all_cons, Bool.and_eq_true] at c
    rw [List.countP_cons, List.countP_cons, cnt_eqA h a r2 c.2, r1.eqA h c.1 a]
theorem idx_eqA {K : PySem.W.Frag} {H : Hp} {N : As} {d : D} {v : V} (h : Rp K H N 0 d v []) (a : d.atom = true) {ds : List D} {vs : List V} (r : Rps K H N 0 ds vs []) (c : ds.all D.atom = true) {i : Nat} {z : V} (hz : vs[i]? = some z) : ∃ e, ds[i]? = some e ∧ eqV z v = DL.eqA e d := by
  have hl := Rps.len r
  have hi : i < vs.length := (List.getElem?_eq_some_iff.mp hz).1
  have he : ds[i]? = some (ds[i]'(by omega)) := List.getElem?_eq_getElem (by omega)
  obtain ⟨z', hz', rz⟩ := Rps.get r he
  rw [hz] at hz'
  cases hz'
  exact ⟨_, he, rz.eqA h (List.all_eq_true.mp c _ (List.getElem_mem _)) a⟩
def gCnt (d : D) : D → Option (Nat × D)
  | .lst ds => if d.atom && ds.all D.atom then some (0, .int (ds.countP fun e => eqA e d)) else none
  | _ => none
def gIdx (d : D) : D → Option (Nat × D)
  | .lst ds => if d.atom && ds.all D.atom then (match ds.findIdx? (fun e => eqA e d) with
    | some j => some (0, .int (j : Nat))
    | none => none) else none
  | _ => none
section
variable {X : Cx} {W : WX} {o e : Expr} {f : EV} {apos cpos : Pos} {d : D} {v : V}
theorem d_count (h : DE X W o f) (he : PE X e (tC v)) (hd : ∀ H N, Rp X.K H N 0 d v [])
    (hbase : attributeBase o "count" X.env (eval o X.env) = eval o X.env := by rfl)
    (hfew : ((backTo cpos (starEach (e :: []) X.env)).all (fun x => !x.1) && (backToKw cpos (keywordEach [] X.env)).all (fun x => x.1.isSome)
      && decide ((e :: ([] : List Expr)).length + ([] : List Keyword).length + (if ([] : List Keyword).isEmpty then 0 else 1) < 30)) = true := by rfl)
    (hline : (apos.endLine == cpos.line) = true := by rfl) (hs : starEach (e :: []) X.env = (false, eval e X.env) :: starEach [] X.env := by rfl) (hplain : (backTo cpos (starEach [] X.env)).any (·.1) = false := by rfl) :
    DE X W (.Call (.Attribute o "count" apos) [e] [] cpos) (e1 (gCnt d) f) :=
  de_1 (r := fun x H Q => tyV X.K "list" x H ∧ rCntA X.K x [v] H Q) (fun t ho => pe_bm PySem.F.plainAttrs_list PySem.F.slot_list_count PySem.F.type_list_count mt_countA ho (pa_cons he pa_nil hs) (hbase := hbase) (hfew := hfew) (hline := hline) (hs := hs) (hplain := hplain)) (by
    intro H B z x Q hz ok
    unfold gCnt at ok
    split at ok
    · split at ok
      · rename_i hc
        simp only [Bool.and_eq_true] at hc
        obtain ⟨a, vs, rfl, e1, r1⟩ := hz.lst
        have hdv := hd H B
        obtain ⟨f1, _⟩ := Rps.flats hdv hc.1 r1 hc.2
        refine ⟨.inl ⟨rfl, vs, SqL.of e1⟩, a, vs, v, rfl, rfl, SqL.of e1, hdv.flat hc.1, f1, ?_⟩
        rw [cnt_eqA hdv hc.1 r1 hc.2]
        exact ok.int
      · exact ok.elim
    · exact ok.elim) h
theorem d_index (h : DE X W o f) (he : PE X e (tC v)) (hd : ∀ H N, Rp X.K H N 0 d v [])
    (hbase : attributeBase o "index" X.env (eval o X.env) = eval o X.env := by rfl)
    (hfew : ((backTo cpos (starEach (e :: []) X.env)).all (fun x => !x.1) && (backToKw cpos (keywordEach [] X.env)).all (fun x => x.1.isSome)
      && decide ((e :: ([] : List Expr)).length + ([] : List Keyword).length + (if ([] : List Keyword).isEmpty then 0 else 1) < 30)) = true := by rfl)
    (hline : (apos.endLine == cpos.line) = true := by rfl) (hs : starEach (e :: []) X.env = (false, eval e X.env) :: starEach [] X.env := by rfl) (hplain : (backTo cpos (starEach [] X.env)).any (·.1) = false := by rfl) :
    DE X W (.Call (.Attribute o "index" apos) [e] [] cpos) (e1 (gIdx d) f) :=
  de_1 (r := fun x H Q => tyV X.K "list" x H ∧ rIndex X.K x [v] H Q) (fun t ho => pe_bm PySem.F.plainAttrs_list PySem.F.slot_list_index PySem.F.type_list_index mt_index ho (pa_cons he pa_nil hs) (hbase := hbase) (hfew := hfew) (hline := hline) (hs := hs) (hplain := hplain)) (by
    intro H B z x Q hz ok
    unfold gIdx at ok
    split at ok
    · split at ok
      · rename_i hc
        simp only [Bool.and_eq_true] at hc
        split at ok
        · rename_i j hj
          obtain ⟨a, vs, rfl, e1, r1⟩ := hz.lst
          have hdv := hd H B
          obtain ⟨f1, _⟩ := Rps.flats hdv hc.1 r1 hc.2
          obtain ⟨h1, h2, h3⟩ := List.findIdx?_eq_some_iff_getElem.mp hj
          have hl := Rps.len r1
          obtain ⟨w, hw, rw'⟩ := Rps.get r1 (List.getElem?_eq_getElem h1)
          refine ⟨.inl ⟨rfl, vs, SqL.of e1⟩, a, vs, v, j, w, rfl, rfl, SqL.of e1, hdv.flat hc.1, f1, hw, ?_, fun m z' hm hz' => ?_, ok.int⟩
          · rw [rw'.eqA hdv (List.all_eq_true.mp hc.2 _ (List.getElem_mem _)) hc.1]; exact h2
          · obtain ⟨e, he, ee⟩ := idx_eqA hdv hc.1 r1 hc.2 hz'
            rw [ee]
            have := h3 m hm
            rw [List.getElem?_eq_getElem (by omega)] at he
            cases he
            simpa using this
        · exact ok.elim
      · exact ok.elim
    · exact ok.elim) h
def gRev : D → Option (Nat × D)
  | .lst ds => some (1, .lst ds.reverse)
  | _ => none
theorem d_rev1 {k : Nat} {p1 p2 p3 pos : Pos} (h : DE X W o f) : DE X W (.Subscript o (.Slice none none (some (.UnaryOp .USub (.Constant (.int 1) k p1) p2)) p3) pos) (e1 gRev f) :=
  de_1 (r := fun x H Q => ∃ a xs, x = .ref a ∧ SqL X.K H a xs ∧ ∀ p, H p = none → Q (.ref p) (upd H p (.lst xs.reverse))) (fun t ho => pe_revL ho) (by
    intro H B z x Q hz ok
    unfold gRev at ok
    split at ok
    · obtain ⟨a, vs, rfl, e1, r1⟩ := hz.lst
      exact ⟨a, vs, rfl, SqL.of e1, fun p hp => ok.lst r1.rv p hp⟩
    · exact ok.elim) h
end
section
variable {d e : D} {ds : List D}
def cntO (b : Bool) (n : Nat) : Option (Nat × D) := if b then some (0, .int n) else none
def idxO (b : Bool) (o : Option Nat) : Option (Nat × D) := if b then (match o with
  | some j => some (0, .int (j : Nat))
  | none => none) else none
theorem gCnt_k : gCnt d (.lst ds) = cntO (d.atom && ds.all D.atom) (ds.countP fun e => eqA e d) := Eq.trans rfl rfl
theorem cntO_t {n : Nat} : cntO true n = some (0, .int n) := Eq.trans rfl rfl
theorem gIdx_k : gIdx d (.lst ds) = idxO (d.atom && ds.all D.atom) (ds.findIdx? fun e => eqA e d) := Eq.trans rfl rfl
theorem gRev_k : gRev (.lst ds) = some (1, .lst ds.reverse) := Eq.trans rfl rfl
end
end DL
namespace DL
open PySem PySem.Spec L2
open PyProof.Rows hiding St
section
variable {K : PySem.W.Frag} {H : Hp} {N : As}
theorem Rps.erase0 : ∀ {ds : List D} {vs : List V} (i : Nat), Rps K H N 0 ds vs [] → Rps K H N 0 (ds.eraseIdx i) (vs.eraseIdx i) []
  | [], vs, i, h => by
    have e := h.len
    cases vs with
    | nil => simpa using h
    | cons v vs => cases e
  | d :: ds, vs, i, h => by
    simp only [Rps] at h
    obtain ⟨v, vr, l1, l2, rfl, el, r1, r2⟩ := h
    have z1 := r1.zero
    subst z1
    have z2 := r2.zero
    subst z2
    cases i with
    | zero => exact r2
    | succ i =>
      show Rps K H N 0 (d :: ds.eraseIdx i) (v :: vr.eraseIdx i) []
      simp only [Rps]
      exact ⟨v, _, [], [], rfl, rfl, r1, Rps.erase0 i r2⟩
theorem Rps.insAt : ∀ {m : Nat} {ds : List D} {vs : List V} {l l1 : As} {d : D} {v : V} (i : Nat), Rps K H N m ds vs l → Rp K H N m d v l1 → ∃ l2, l2.Perm (l ++ l1) ∧ Rps K H N m (ds.take i ++ [d] ++ ds.drop i) (vs.take i ++ [v] ++ vs.drop i) l2
  | m, ds, vs, l, l1, d, v, 0, h, r => by
    refine ⟨l1 ++ l, List.perm_append_comm, ?_⟩
    show Rps K H N m (d :: ds) (v :: vs) _
    simp only [Rps]
    exact ⟨v, vs, l1, l, rfl, rfl, r, h⟩
  | m, [], vs, l, l1, d, v, i + 1, h, r => by
    simp only [Rps] at h
    obtain ⟨rfl, rfl⟩ := h
    refine ⟨l1, by simp, ?_⟩
    show Rps K H N m [d] [v] l1
    simp only [Rps]
    exact ⟨v, [], l1, [], rfl, by simp, r, rfl, rfl⟩
  | m, x :: ds, vs, l, l1, d, v, i + 1, h, r => by
    simp only [Rps] at h
    obtain ⟨w, vr, k1, k2, rfl, rfl, r1, r2⟩ := h
    obtain ⟨l2, p, q⟩ := Rps.insAt i r2 r
    refine ⟨k1 ++ l2, by rw [List.append_assoc]; exact List.Perm.append_left k1 p, ?_⟩
    show Rps K H N m (x :: (ds.take i ++ [d] ++ ds.drop i)) (w :: (vr.take i ++ [v] ++ vr.drop i)) _
    simp only [Rps]
    exact ⟨w, _, k1, l2, rfl, rfl, r1, q⟩
end
def ePop (j : Nat) (p : List Nat) (f : EV) : EV := fun δ => match δ[j]? with
  | some (some (_ + 1, d0)) => (match d0.at p with
    | some (.lst _) => (match f δ with
      | .ok _ (.int i) δ1 => (match δ1[j]? with
        | some (some (1, d1)) => (match d1.at p with
          | some (.lst ds) => if inW i = true then (match ixN ds.length i with
            | some n => (match ds[n]? with
              | some d => .ok 0 d (δ1.set j (some (1, d1.put p (.lst (ds.eraseIdx n)))))
              | none => .bad)
            | none => .bad) else .bad
          | _ => .bad)
        | _ => .bad)
      | .exc x δ' => .exc x δ'
      | _ => .bad)
    | _ => .bad)
  | _ => .bad
section
variable {X : Cx} {W : WX} {F : List Nat} {o e i : Expr} {fe fi : EV} {j : Nat} {p : List Nat} {pos : Pos}
theorem de_pop {apos cpos : Pos} (mk : ∀ to te, PE X o to → PE X e te → PE X (.Call (.Attribute o "pop" apos) [e] [] cpos) (tBM X.K "list" rPopAt to (tCons te tNil))) (ho : DP X o j p) (he : DE X W e fe) :
    DE X W (.Call (.Attribute o "pop" apos) [e] [] cpos) (ePop j p fe) := by
  obtain ⟨to, po, qo⟩ := ho.ex
  obtain ⟨te, pe, qe⟩ := he.ex
  refine ⟨_, mk to te po pe, fun σ H δ L R Q s ok => ?_⟩
  unfold ePop at ok
  split at ok
  · rename_i m0 d0 hd0
    split at ok
    · rename_i ds0 ha0
      obtain ⟨v, a, vs0, g1, g2, g3⟩ := own_at s hd0 ha0
      refine qo σ H v (.ref a) _ g1 g2 ⟨.inl ⟨rfl, vs0, SqL.of g3⟩, ?_⟩
      refine qe σ H δ L R _ s ?_
      cases hf : fe δ with
      | bad => rw [hf] at ok; exact ok
      | exc x δ' => rw [hf] at ok; exact ok
      | ok m d δ1 =>
        rw [hf] at ok
        intro u H1 l L1 k w s1 rp
        cases d with
        | int ii =>
          simp only at ok
          split at ok
          · rename_i d1 hd1
            split at ok
            · rename_i ds ha1
              split at ok
              · rename_i hw
                split at ok
                · rename_i n hn
                  split at ok
                  · rename_i dd hdn
                    have zi : u = .int ii ∧ l = [] := by simpa only [Rp] using rp
                    obtain ⟨rfl, rfl⟩ := zi
                    have s2 : SR X.K σ H1 δ1 L1 ([] ++ R) := s1
                    obtain ⟨v', a', vs, l', L2, f1, f2, f3, f4, f5, f6⟩ := SR.mut s2 hd1 ha1
                    rw [g1] at f1; cases f1
                    have := PathV.uniq (PathV.step k g2) f2
                    cases this
                    have zl := f5.zero
                    subst zl
                    obtain ⟨y, hy, ry⟩ := f5.get hdn
                    have hwi := inW_of hw
                    have hseq := ixN_seq hn
                    refine ⟨a, vs, ii, n, y, rfl, rfl, f3, by omega, by omega, by rw [← f5.len]; exact hseq.1, hy, ?_⟩
                    have s3 := f6 (ds.eraseIdx n) (vs.eraseIdx n) [] [] (by simp) (f5.erase0 n)
                    have al : a ∈ L1 := f4.mem_iff.mpr (by simp)
                    have ka : Kp H1 (upd H1 a (.lst (vs.eraseIdx n))) [a] := ⟨fun b o q n => by rw [upd_ne (by simpa using n)]; exact q, fun b hb => (List.mem_singleton.mp hb) ▸ s1.own a al⟩
                    have memN : ∀ x ∈ ([a] ++ L2) ++ R, x ∈ L1 ++ ([] ++ R) := fun x hx => by
                      rcases List.mem_append.mp hx with hx | hx
                      · exact List.mem_append_left _ (f4.mem_iff.mpr (by simpa using hx))
                      · exact List.mem_append_right _ (by simpa using hx)
                    have ry2 : Rp X.K (upd H1 a (.lst (vs.eraseIdx n))) (([a] ++ L2) ++ ([] ++ R)) 0 dd y [] := ry.step ka (fun x hx => by rw [List.mem_singleton.mp hx]; exact List.mem_append_left _ al) (fun x hx => .inl (memN x (by simpa using hx))) (fun x hx => by cases hx)
                    refine ok y _ [] ([a] ++ L2) (kp_mut k (w.right) al) (fun x hx => ?_) (by simpa using s3) (ry2.sub fun x hx => hx)
                    have hx : x ∈ [a] ++ L2 := by simpa using hx
                    exact w.right x (f4.mem_iff.mpr (by simpa using hx))
                  · exact ok.elim
                · exact ok.elim
              · exact ok.elim
            · exact ok.elim
          · exact ok.elim
        | _ => exact ok.elim
    · exact ok.elim
  · exact ok.elim
theorem d_pop {apos cpos : Pos} (ho : DP X o j p) (he : DE X W e fe) (hbase : attributeBase o "pop" X.env (eval o X.env) = eval o X.env := by rfl)
    (hfew : ((backTo cpos (starEach (e :: []) X.env)).all (fun x => !x.1) && (backToKw cpos (keywordEach [] X.env)).all (fun x => x.1.isSome)
      && decide ((e :: ([] : List Expr)).length + ([] : List Keyword).length + (if ([] : List Keyword).isEmpty then 0 else 1) < 30)) = true := by rfl)
    (hline : (apos.endLine == cpos.line) = true := by rfl) (hs : starEach (e :: []) X.env = (false, eval e X.env) :: starEach [] X.env := by rfl) (hplain : (backTo cpos (starEach [] X.env)).any (·.1) = false := by rfl) :
    DE X W (.Call (.Attribute o "pop" apos) [e] [] cpos) (ePop j p fe) :=
  de_pop (fun to te ho he => pe_bm PySem.F.plainAttrs_list PySem.F.slot_list_pop PySem.F.type_list_pop mt_popAt ho (pa_cons he pa_nil hs) (hbase := hbase) (hfew := hfew) (hline := hline) (hs := hs) (hplain := hplain)) ho he
def sIns (j : Nat) (p : List Nat) (fi f : EV) : SV := fun δ => match δ[j]? with
  | some (some (_ + 1, d0)) => (match d0.at p with
    | some (.lst _) => (match fi δ with
      | .ok _ (.int i) δ1 => (match f δ1 with
        | .ok m d δ2 => (match δ2[j]? with
          | some (some (k + 1, d1)) => (match d1.at p with
            | some (.lst ds) => if (ds.length < sizeLine ∧ joinM k m d = true) ∧ 0 ≤ i ∧ i < 2 ^ 62 then .nx (δ2.set j (some (k + 1, d1.put p (.lst (ds.take i.toNat ++ [d] ++ ds.drop i.toNat))))) else .bad
            | _ => .bad)
          | _ => .bad)
        | .exc x δ' => .exc x δ'
        | .bad => .bad)
      | .exc x δ' => .exc x δ'
      | _ => .bad)
    | _ => .bad)
  | _ => .bad
def rInsert : V → List V → Hp → VK → Prop := fun x vs H Q => ∃ (l : Addr) (xs : List V) (i : Int) (y : V), x = .ref l ∧ vs = [.int i, y] ∧ H l = some (.lst xs) ∧ xs.length < sizeLine ∧ 0 ≤ i ∧ i < 2 ^ 63 ∧
    Q .non (upd H l (.lst (xs.take i.toNat ++ [y] ++ xs.drop i.toNat)))
theorem ds_insert {apos cpos : Pos} (mk : ∀ to ti te, PE X o to → PE X i ti → PE X e te → PS X (.Expr (.Call (.Attribute o "insert" apos) [i, e] [] cpos) pos) (tDrop (tBM X.K "list" rInsert to (tCons ti (tCons te tNil))))) (ho : DP X o j p) (hi : DE X W i fi) (he : DE X W e fe) :
    DS X W F (.Expr (.Call (.Attribute o "insert" apos) [i, e] [] cpos) pos) (sIns j p fi fe) := by
  obtain ⟨to, po, qo⟩ := ho.ex
  obtain ⟨ti, pi, qi⟩ := hi.ex
  obtain ⟨te, pe, qe⟩ := he.ex
  refine ⟨_, mk to ti te po pi pe, fun σ H δ L R D s ok => ?_⟩
  unfold sIns at ok
  split at ok
  · rename_i m0 d0 hd0
    split at ok
    · rename_i ds0 ha0
      obtain ⟨v, a, vs0, g1, g2, g3⟩ := own_at s hd0 ha0
      refine qo σ H v (.ref a) _ g1 g2 ⟨.inl ⟨rfl, vs0, SqL.of g3⟩, ?_⟩
      refine qi σ H δ L R _ s ?_
      cases hf0 : fi δ with
      | bad => rw [hf0] at ok; exact ok
      | exc x δ' => rw [hf0] at ok; exact XOk.st ok
      | ok mi di δ0 =>
        rw [hf0] at ok
        intro vi H0 l0 L0 k0 w0 s0 ri
        cases di with
        | int ii =>
          have zi : vi = .int ii ∧ l0 = [] := by simpa only [Rp] using ri
          obtain ⟨rfl, rfl⟩ := zi
          simp only [List.nil_append] at s0 w0
          refine qe σ H0 δ0 L0 R _ s0 ?_
          simp only at ok
          cases hf : fe δ0 with
          | bad => rw [hf] at ok; exact ok
          | exc x δ' => rw [hf] at ok; exact XOk.same k0 w0 (XOk.st ok)
          | ok m d δ1 =>
            rw [hf] at ok
            simp only at ok
            intro u H1 l L1 k1 w1 s1 rp
            split at ok
            · rename_i kk d1 hd1
              split at ok
              · rename_i ds ha1
                split at ok
                · rename_i hcc
                  obtain ⟨hc, hi0, hi1⟩ := hcc
                  have k : Kp H H1 L := k0.trans w0 k1
                  have w : Nw H L (l ++ L1) := Nw.trans k0 w0 w1
                  have hz : ∀ x ∈ l, x ∉ L1 ++ R := (fz_at s1).1
                  obtain ⟨l1, hl1, r1⟩ := join_of (B := L1 ++ R) rp hc.2 hz (fun x => mem3.trans or_comm)
                  have sub1 : l1.Sublist l := by rcases hl1 with rfl | rfl; exact List.nil_sublist _; exact List.Sublist.refl _
                  have s2 : SR X.K σ H1 δ1 L1 (l1 ++ R) := s1.less (List.Sublist.append sub1 (List.Sublist.refl _))
                  obtain ⟨v', a', vs, l', L2, f1, f2, f3, f4, f5, f6⟩ := SR.mut s2 hd1 ha1
                  rw [g1] at f1; cases f1
                  have := PathV.uniq (PathV.step k g2) f2
                  cases this
                  refine ⟨a, vs, ii, u, rfl, rfl, f3, by rw [← f5.len]; exact hc.1, hi0, by omega, ?_⟩
                  have r2 : Rp X.K H1 (L1 ++ (l1 ++ R)) kk d u l1 := r1.sub fun x hx => List.mem_append.mpr ((mem3.mp hx).symm)
                  obtain ⟨lq, p1, p2⟩ := Rps.insAt ii.toNat f5 r2
                  have s3 := f6 _ _ lq [] (by simpa using p1) p2
                  have al : a ∈ L1 := f4.mem_iff.mpr (by simp)
                  refine ok σ _ _ (kp_mut k (w.right) al) (fun x hx => ?_) s3 Fix.refl
                  rcases List.mem_append.mp hx with hx | hx
                  · rcases List.mem_cons.mp hx with rfl | hx
                    · exact w.right _ al
                    · have : x ∈ l' ++ l1 := p1.mem_iff.mp hx
                      rcases List.mem_append.mp this with hx | hx
                      · exact w.right x (f4.mem_iff.mpr (by simp [hx]))
                      · exact w.left x (sub1.subset hx)
                  · exact w.right x (f4.mem_iff.mpr (List.mem_append_right _ hx))
                · exact ok.elim
              · exact ok.elim
            · exact ok.elim
        | _ => exact ok.elim
    · exact ok.elim
  · exact ok.elim
theorem d_insert {apos cpos : Pos} (ho : DP X o j p) (hi : DE X W i fi) (he : DE X W e fe) (hbase : attributeBase o "insert" X.env (eval o X.env) = eval o X.env := by rfl)
    (hfew : ((backTo cpos (starEach (i :: [e]) X.env)).all (fun x => !x.1) && (backToKw cpos (keywordEach [] X.env)).all (fun x => x.1.isSome)
      && decide ((i :: ([e] : List Expr)).length + ([] : List Keyword).length + (if ([] : List Keyword).isEmpty then 0 else 1) < 30)) = true := by rfl)
    (hline : (apos.endLine == cpos.line) = true := by rfl) (hs : starEach (i :: [e]) X.env = (false, eval i X.env) :: starEach [e] X.env := by rfl) (hs2 : starEach (e :: []) X.env = (false, eval e X.env) :: starEach [] X.env := by rfl) (hplain : (backTo cpos (starEach [e] X.env)).any (·.1) = false := by rfl)
    (hsw : swapsWith (.Call (.Attribute o "insert" apos) [i, e] [] cpos) none pos.line X.env = pure false := by rfl) :
    DS X W F (.Expr (.Call (.Attribute o "insert" apos) [i, e] [] cpos) pos) (sIns j p fi fe) :=
  ds_insert (fun to ti te ho hi he => ps_expr (pe_bm PySem.F.plainAttrs_list PySem.F.slot_list_insert PySem.F.type_list_insert mt_insert ho (pa_cons hi (pa_cons he pa_nil hs2) hs) (hbase := hbase) (hfew := hfew) (hline := hline) (hs := hs) (hplain := hplain)) hsw) ho hi he
theorem SR.frz {K : PySem.W.Frag} {σ : L2.St} {H : Hp} {δ : DL.Env} {L R : As} {m : Nat} {d : D} {i : Nat} (s : SR K σ H δ L R) (e : δ[i]? = some (some (m, d))) : ∃ L2, (∀ a ∈ L2, a ∈ L) ∧ SR K σ H (δ.set i (some (0, d))) L2 R := by
  obtain ⟨v, l, L2, h1, h2, h3, h4⟩ := s.get e
  have hi : i < δ.length := (List.getElem?_eq_some_iff.mp e).1
  have nd : (l ++ L2 ++ R).Nodup := (List.Perm.append_right R h2).nodup_iff.mp s.nd
  have h5 : SR K σ H (δ.set i none) L2 ([] ++ R) := h4.less (List.sublist_append_right _ _)
  have h6 : Rp K H (L2 ++ ([] ++ R)) 0 d v [] := h3.fz (fun a ha hb => by
    rw [List.append_assoc] at nd
    have := (List.nodup_append.mp nd).2.2 a ha a (by simpa using hb)
    exact this rfl) (fun a ha => by
    rcases List.mem_append.mp ha with ha | ha
    · exact List.mem_append_left _ (h2.mem_iff.mpr (List.mem_append_right _ ha))
    · exact List.mem_append_right _ (by simpa using ha))
  have h7 := h5.put (i := i) (by rw [List.getElem?_set_self hi]) h6
  rw [List.set_set] at h7
  have hv : σ.set i (some v) = σ := by
    have hs : i < σ.length := (List.getElem?_eq_some_iff.mp h1).1
    have : σ[i] = some v := (List.getElem?_eq_some_iff.mp h1).2
    rw [← this]
    exact List.set_getElem_self hs
  rw [hv] at h7
  exact ⟨L2, fun a ha => h2.mem_iff.mpr (List.mem_append_right _ ha), by simpa using h7⟩
def sFrz (i : Nat) (g : SV) : SV := fun δ => match δ[i]? with
  | some (some (_, d)) => g (δ.set i (some (0, d)))
  | _ => .bad
theorem dss_frz {rest : List Stmt} {g : SV} {i : Nat} (h' : DSs X W F rest g) : DSs X W F rest (sFrz i g) := by
  obtain ⟨u, p', q'⟩ := h'.ex
  refine ⟨u, p', fun σ H δ L R D s ok => ?_⟩
  unfold sFrz at ok
  split at ok
  · rename_i m d hd
    obtain ⟨L2, h1, h2⟩ := s.frz hd
    exact q' σ H _ L2 R D h2 (SOk.same (L := L) ⟨fun _ _ e _ => e, s.own⟩ (fun x hx => .inl (h1 x hx)) Fix.refl ok)
  · exact ok.elim
end
section
variable {δ : DL.Env} {fe fi : EV} {d e : D} {ds : List D} {i : Int} {m j k : Nat} {p : List Nat}
def popO2 (o : Option Nat) (b : Bool) (ds : List D) (δ1 : DL.Env) (j : Nat) (p : List Nat) (d1 : D) : Res := if b = true then (match o with
  | some n => (match ds[n]? with
    | some d => .ok 0 d (put δ1 j (some (1, d1.put p (.lst (ds.eraseIdx n)))))
    | none => .bad)
  | none => .bad) else .bad
def popO1 (o : Option D) (i : Int) (δ1 : DL.Env) (j : Nat) (p : List Nat) (d1 : D) : Res := match o with
  | some (.lst ds) => popO2 (ixN ds.length i) (inW i) ds δ1 j p d1
  | _ => .bad
def popO (o : Option (Nat × D)) (i : Int) (j : Nat) (p : List Nat) (δ1 : DL.Env) : Res := match o with
  | some (1, d1) => popO1 (d1.at p) i δ1 j p d1
  | _ => .bad
def Res.kpop (r : Res) (j : Nat) (p : List Nat) : Res := match r with
  | .ok _ (.int i) δ1 => popO (look δ1 j) i j p δ1
  | .exc x δ' => .exc x δ'
  | _ => .bad
theorem ePop_k (h : ownL (look δ j) p = true) : ePop j p fe δ = (fe δ).kpop j p := by
  unfold ePop
  rw [look_eq] at h
  rcases h1 : δ[j]? with _ | (_ | ⟨_ | k, d⟩)
  · rw [h1] at h; cases h
  · rw [h1] at h; cases h
  · rw [h1] at h; cases h
  · rw [h1] at h
    have h : isLst (d.at p) = true := h
    simp only
    rcases h2 : d.at p with _ | d'
    · rw [h2] at h; cases h
    · cases d' <;> first | (rw [h2] at h; cases h; done) | skip
      simp only [Res.kpop]
      cases fe δ with
      | bad => rfl
      | exc x δ' => rfl
      | ok m e δ1 =>
        cases e <;> try rfl
        simp only [popO, look_eq]
        rcases h3 : δ1[j]? with _ | (_ | ⟨_ | _ | k', d1⟩) <;> try rfl
        simp only [Option.join_some, popO1, put_eq]
        rcases h4 : d1.at p with _ | d2
        · rfl
        · cases d2 <;> try rfl
          simp only [popO2, put_eq]
          all_goals (rename_i ii ds; by_cases z : inW ii = true <;> simp [z] <;> cases ixN ds.length ii <;> rfl)
theorem kpop_ok : (Res.ok m (.int i) δ).kpop j p = popO (look δ j) i j p δ := Eq.trans rfl rfl
theorem popO_k : popO (some (1, e)) i j p δ = popO1 (e.at p) i δ j p e := Eq.trans rfl rfl
theorem popO1_k : popO1 (some (.lst ds)) i δ j p e = popO2 (ixN ds.length i) (inW i) ds δ j p e := Eq.trans rfl rfl
theorem popO2_k {n : Nat} (h : ds[n]? = some d) : popO2 (some n) true ds δ j p e = .ok 0 d (put δ j (some (1, e.put p (.lst (ds.eraseIdx n))))) := by
  unfold popO2
  rw [if_pos rfl]
  simp only [h]
def insO1 (o : Option D) (i : Int) (δ1 : DL.Env) (j k : Nat) (p : List Nat) (d1 : D) (m : Nat) (d : D) : SRes := match o with
  | some (.lst ds) => if (ds.length < sizeLine ∧ joinM k m d = true) ∧ 0 ≤ i ∧ i < 2 ^ 62 then .nx (put δ1 j (some (k + 1, d1.put p (.lst (ds.take i.toNat ++ [d] ++ ds.drop i.toNat))))) else .bad
  | _ => .bad
def insO (o : Option (Nat × D)) (i : Int) (j : Nat) (p : List Nat) (m : Nat) (d : D) (δ1 : DL.Env) : SRes := match o with
  | some (k + 1, d1) => insO1 (d1.at p) i δ1 j k p d1 m d
  | _ => .bad
def Res.kins2 (r : Res) (i : Int) (j : Nat) (p : List Nat) : SRes := match r with
  | .ok m d δ1 => insO (look δ1 j) i j p m d δ1
  | .exc x δ' => .exc x δ'
  | .bad => .bad
def Res.kins (r : Res) (j : Nat) (p : List Nat) (fe : EV) : SRes := match r with
  | .ok _ (.int i) δ1 => (fe δ1).kins2 i j p
  | .exc x δ' => .exc x δ'
  | _ => .bad
theorem sIns_k (h : ownL (look δ j) p = true) : sIns j p fi fe δ = (fi δ).kins j p fe := by
  unfold sIns
  rw [look_eq] at h
  rcases h1 : δ[j]? with _ | (_ | ⟨_ | k, d⟩)
  · rw [h1] at h; cases h
  · rw [h1] at h; cases h
  · rw [h1] at h; cases h
  · rw [h1] at h
    have h : isLst (d.at p) = true := h
    simp only
    rcases h2 : d.at p with _ | d'
    · rw [h2] at h; cases h
    · cases d' <;> first | (rw [h2] at h; cases h; done) | skip
      simp only [Res.kins]
      cases fi δ with
      | bad => rfl
      | exc x δ' => rfl
      | ok m e δ0 =>
        cases e <;> try rfl
        rename_i ii
        simp only [Res.kins2]
        cases fe δ0 with
        | bad => rfl
        | exc x δ' => rfl
        | ok m e δ1 =>
          simp only [insO, look_eq]
          rcases h3 : δ1[j]? with _ | (_ | ⟨_ | k', d1⟩) <;> try rfl
          all_goals try simp only [Option.join_some, insO1, put_eq]
          all_goals try
            rcases h4 : d1.at p with _ | d2
            · rfl
            · cases d2 <;> rfl
theorem kins_ok : (Res.ok m (.int i) δ).kins j p fe = (fe δ).kins2 i j p := Eq.trans rfl rfl
theorem kins2_ok : (Res.ok m d δ).kins2 i j p = insO (look δ j) i j p m d δ := Eq.trans rfl rfl
theorem insO_k : insO (some (k + 1, e)) i j p m d δ = insO1 (e.at p) i δ j k p e m d := Eq.trans rfl rfl
theorem insO1_k (h : ds.length < sizeLine) (h' : joinM k m d = true) (h0 : 0 ≤ i) (h1 : i < 2 ^ 62) : insO1 (some (.lst ds)) i δ j k p e m d = .nx (put δ j (some (k + 1, e.put p (.lst (ds.take i.toNat ++ [d] ++ ds.drop i.toNat))))) := if_pos ⟨⟨h, h'⟩, h0, h1⟩
def frzO (o : Option (Nat × D)) (i : Nat) (g : SV) (δ : DL.Env) : SRes := match o with
  | some (_, d) => g (put δ i (some (0, d)))
  | none => .bad
theorem sFrz_k {g : SV} {i : Nat} : sFrz i g δ = frzO (look δ i) i g δ := by
  unfold sFrz frzO
  rw [look_eq]
  rcases δ[i]? with _ | (_ | ⟨m, d⟩) <;> simp [put_eq]
theorem frzO_k {g : SV} {i : Nat} : frzO (some (m, d)) i g δ = g (put δ i (some (0, d))) := Eq.trans rfl rfl
end
end DL
namespace DL
open PySem PySem.Spec L2
open PyProof.Rows hiding St
def fS1 (o : Option DL.Env) (body : SV) : SRes := match o with
  | some δ1 => body δ1
  | none => .bad
def fS (t : Tgt) (body : SV) (d : D) (δ : DL.Env) : SRes := fS1 (t.set 0 d δ) body
def okS (J : DL.Env → Prop) (Q : SRes → Prop) (r : SRes) : Prop := match r with
  | .nx δ => J δ
  | .cnt δ => J δ
  | .brk δ => Q (.nx δ)
  | .ret m d δ => Q (.ret m d δ)
  | .exc x δ => Q (.exc x δ)
  | .bad => False
def okW (J : DL.Env → Prop) (Q : SRes → Prop) (body : SV) (r : TRes) : Prop := match r with
  | .ok true δ => okS J Q (body δ)
  | .ok false δ => Q (.nx δ)
  | .exc x δ => Q (.exc x δ)
  | .bad => False
def noQ : SRes → Prop := fun _ => False
section
variable {t : Tgt} {body : SV} {d : D} {δ : DL.Env} {J : DL.Env → Prop} {Q : SRes → Prop} {m : Nat} {x : XD}
theorem fS_k : fS t body d δ = fS1 (t.set 0 d δ) body := Eq.trans rfl rfl
theorem fS1_k : fS1 (some δ) body = body δ := Eq.trans rfl rfl
theorem okS_nx : okS J Q (.nx δ) = J δ := Eq.trans rfl rfl
theorem okS_cnt : okS J Q (.cnt δ) = J δ := Eq.trans rfl rfl
theorem okS_brk : okS J Q (.brk δ) = Q (.nx δ) := Eq.trans rfl rfl
theorem okS_ret : okS J Q (.ret m d δ) = Q (.ret m d δ) := Eq.trans rfl rfl
theorem okS_exc : okS J Q (.exc x δ) = Q (.exc x δ) := Eq.trans rfl rfl
theorem okW_t : okW J Q body (.ok true δ) = okS J Q (body δ) := Eq.trans rfl rfl
theorem okW_f : okW J Q body (.ok false δ) = Q (.nx δ) := Eq.trans rfl rfl
theorem okW_exc : okW J Q body (.exc x δ) = Q (.exc x δ) := Eq.trans rfl rfl
end
theorem forL_gen {t : Tgt} {body : SV} (I : Nat → DL.Env → Prop) (Q : SRes → Prop) : ∀ (ds : List D) (n : Nat) (δ : DL.Env), I n δ →
    (∀ i d δ, ds[i]? = some d → I (n + i) δ → okS (I (n + i + 1)) Q (fS t body d δ)) → (∃ δ', forL t body ds δ = .nx δ' ∧ I (n + ds.length) δ') ∨ Q (forL t body ds δ)
  | [], n, δ, h, _ => .inl ⟨δ, rfl, h⟩
  | d :: ds, n, δ, h, st => by
    have s0 := st 0 d δ rfl h
    have sr : ∀ δ2, I (n + 0 + 1) δ2 → (∃ δ', forL t body ds δ2 = .nx δ' ∧ I (n + (d :: ds).length) δ') ∨ Q (forL t body ds δ2) := fun δ2 h2 => by
      have := forL_gen (t := t) (body := body) I Q ds (n + 0 + 1) δ2 h2 (fun i d' δ hi hI => by
        have e : n + 0 + 1 + i = n + (i + 1) := by omega
        rw [e] at hI ⊢
        exact st (i + 1) d' δ (by simpa using hi) hI)
      have e : n + 0 + 1 + ds.length = n + (d :: ds).length := by rw [List.length_cons]; omega
      rw [e] at this
      exact this
    rw [forL_cons]
    unfold fS fS1 at s0
    cases h1 : t.set 0 d δ with
    | none => rw [h1] at s0; exact s0.elim
    | some δ1 =>
      rw [h1] at s0
      rw [forO_some]
      simp only at s0
      cases h2 : body δ1 with
      | nx δ2 => rw [h2, okS_nx] at s0; rw [kloop_nx]; exact sr δ2 s0
      | cnt δ2 => rw [h2, okS_cnt] at s0; rw [kloop_cnt]; exact sr δ2 s0
      | brk δ2 => rw [h2, okS_brk] at s0; rw [kloop_brk]; exact .inr s0
      | ret m e δ2 => rw [h2, okS_ret] at s0; rw [kloop_ret]; exact .inr s0
      | exc x δ2 => rw [h2, okS_exc] at s0; rw [kloop_exc]; exact .inr s0
      | bad => rw [h2] at s0; exact s0.elim
theorem for_rangeQ {t : Tgt} {body : SV} {lo : Int} {n : Nat} {δ : DL.Env} {r : SRes} (hF : forL t body (rangeD lo n) δ = r) (I : Nat → DL.Env → Prop) (Q : SRes → Prop) (h0 : I 0 δ)
    (st : ∀ i δ, i < n → I i δ → okS (I (i + 1)) Q (fS t body (.int (lo + i)) δ)) : (∃ δ', r = .nx δ' ∧ I n δ') ∨ Q r := by
  have := forL_gen (t := t) (body := body) I Q (rangeD lo n) 0 δ h0 (fun i d δ hi hI => by
    unfold rangeD at hi
    rw [List.getElem?_map] at hi
    by_cases z : i < n
    · rw [List.getElem?_range z] at hi
      have hi : d = .int (lo + i) := by simpa using hi.symm
      subst hi
      rw [Nat.zero_add] at hI ⊢
      exact st i δ z hI
    · rw [List.getElem?_eq_none (by simpa using z)] at hi
      cases hi)
  rw [hF, Nat.zero_add, show (rangeD lo n).length = n by simp [rangeD]] at this
  exact this
theorem for_range {t : Tgt} {body : SV} {lo : Int} {n : Nat} {δ : DL.Env} {r : SRes} (hF : forL t body (rangeD lo n) δ = r) (I : Nat → DL.Env → Prop) (h0 : I 0 δ)
    (st : ∀ i δ, i < n → I i δ → okS (I (i + 1)) noQ (fS t body (.int (lo + i)) δ)) : ∃ δ', r = .nx δ' ∧ I n δ' := (for_rangeQ hF I noQ h0 st).resolve_right id
theorem for_range0 {t : Tgt} {body : SV} {n : Nat} {δ : DL.Env} {r : SRes} (hF : forL t body (rangeD 0 n) δ = r) (I : Nat → DL.Env → Prop) (h0 : I 0 δ)
    (st : ∀ i δ, i < n → I i δ → okS (I (i + 1)) noQ (fS t body (.int i) δ)) : ∃ δ', r = .nx δ' ∧ I n δ' := for_range hF I h0 fun i δ hi hI => by
  rw [Int.zero_add]; exact st i δ hi hI
theorem for_mapQ {α : Type} {g : α → D} {xs : List α} {t : Tgt} {body : SV} {δ : DL.Env} {r : SRes} (hF : forL t body (xs.map g) δ = r) (I : Nat → DL.Env → Prop) (Q : SRes → Prop) (h0 : I 0 δ)
    (st : ∀ i x δ, xs[i]? = some x → I i δ → okS (I (i + 1)) Q (fS t body (g x) δ)) : (∃ δ', r = .nx δ' ∧ I xs.length δ') ∨ Q r := by
  have := forL_gen (t := t) (body := body) I Q (xs.map g) 0 δ h0 (fun i d δ hi hI => by
    rw [List.getElem?_map] at hi
    rw [Nat.zero_add] at hI ⊢
    cases hx : xs[i]? with
    | none => rw [hx] at hi; cases hi
    | some x =>
      rw [hx] at hi
      have hi : d = g x := by simpa using hi.symm
      subst hi
      exact st i x δ hx hI)
  rw [hF, Nat.zero_add, List.length_map] at this
  exact this
theorem for_map {α : Type} {g : α → D} {xs : List α} {t : Tgt} {body : SV} {δ : DL.Env} {r : SRes} (hF : forL t body (xs.map g) δ = r) (I : Nat → DL.Env → Prop) (h0 : I 0 δ)
    (st : ∀ i x δ, xs[i]? = some x → I i δ → okS (I (i + 1)) noQ (fS t body (g x) δ)) : ∃ δ', r = .nx δ' ∧ I xs.length δ' := (for_mapQ hF I noQ h0 st).resolve_right id
theorem for_restQ {α : Type} {g : α → D} {t : Tgt} {body : SV} (I : List α → DL.Env → Prop) (Q : SRes → Prop)
    (st : ∀ x xs δ, I (x :: xs) δ → okS (I xs) Q (fS t body (g x) δ)) : ∀ {xs : List α} {δ : DL.Env} {r : SRes}, forL t body (xs.map g) δ = r → I xs δ → (∃ δ', r = .nx δ' ∧ I [] δ') ∨ Q r := by
  intro xs δ r hF h0
  have := forL_gen (t := t) (body := body) (fun i => I (xs.drop i)) Q (xs.map g) 0 δ h0 (fun i d δ hi hI => by
    rw [List.getElem?_map] at hi
    rw [Nat.zero_add] at hI ⊢
    cases hx : xs[i]? with
    | none => rw [hx] at hi; cases hi
    | some x =>
      rw [hx] at hi
      have hi : d = g x := by simpa using hi.symm
      subst hi
      have hl : i < xs.length := (List.getElem?_eq_some_iff.mp hx).1
      rw [List.drop_eq_getElem_cons hl] at hI
      rw [(List.getElem?_eq_some_iff.mp hx).2] at hI
      exact st x _ δ hI)
  rw [hF, Nat.zero_add, List.length_map, List.drop_length] at this
  exact this
theorem for_rest {α : Type} {g : α → D} {t : Tgt} {body : SV} (I : List α → DL.Env → Prop)
    (st : ∀ x xs δ, I (x :: xs) δ → okS (I xs) noQ (fS t body (g x) δ)) {xs : List α} {δ : DL.Env} {r : SRes} (hF : forL t body (xs.map g) δ = r) (h0 : I xs δ) : ∃ δ', r = .nx δ' ∧ I [] δ' := (for_restQ I noQ st hF h0).resolve_right id
theorem wh_gen {c : DL.Env → TRes} {body : SV} {δ : DL.Env} {r : SRes} (hW : sWh c body δ = r) (I : Nat → DL.Env → Prop) (Q : SRes → Prop) (n : Nat) (h0 : I n δ)
    (st : ∀ n δ, I n δ → okW (fun δ' => ∃ n', n' < n ∧ I n' δ') Q body (c δ)) : Q r := by
  subst hW
  induction n using Nat.strongRecOn generalizing δ with
  | _ n ih =>
    have s := st n δ h0
    rw [sWh_k]
    cases hc : c δ with
    | bad => rw [hc] at s; exact s.elim
    | exc x δ' => rw [hc, okW_exc] at s; exact s
    | ok b δ1 =>
      cases b with
      | false => rw [hc, okW_f] at s; rw [kwh_f]; exact s
      | true =>
        rw [hc, okW_t] at s
        rw [kwh_t]
        cases hb : body δ1 with
        | nx δ2 => rw [hb, okS_nx] at s; rw [kloop_nx]; obtain ⟨n', h1, h2⟩ := s; exact ih n' h1 h2
        | cnt δ2 => rw [hb, okS_cnt] at s; rw [kloop_cnt]; obtain ⟨n', h1, h2⟩ := s; exact ih n' h1 h2
        | brk δ2 => rw [hb, okS_brk] at s; rw [kloop_brk]; exact s
        | ret m d δ2 => rw [hb, okS_ret] at s; rw [kloop_ret]; exact s
        | exc x δ2 => rw [hb, okS_exc] at s; rw [kloop_exc]; exact s
        | bad => rw [hb] at s; exact s.elim
def cS3 (r : Res) (vs : List Nat) : Option (Option D × DL.Env) := match r with
  | .ok _ d δ3 => some (some d, wipeD δ3 vs)
  | _ => none
def cS2 (r : TRes) (vs : List Nat) (elt : EV) : Option (Option D × DL.Env) := match r with
  | .ok true δ2 => cS3 (elt δ2) vs
  | .ok false δ2 => some (none, wipeD δ2 vs)
  | _ => none
def cS1 (o : Option DL.Env) (vs : List Nat) (cond : DL.Env → TRes) (elt : EV) : Option (Option D × DL.Env) := match o with
  | some δ1 => cS2 (cond δ1) vs elt
  | none => none
def cS (t : Tgt) (vs : List Nat) (cond : DL.Env → TRes) (elt : EV) (d : D) (δ : DL.Env) : Option (Option D × DL.Env) := cS1 (t.set 0 d δ) vs cond elt
section
variable {t : Tgt} {vs : List Nat} {cond : DL.Env → TRes} {elt : EV} {d : D} {δ : DL.Env} {m : Nat}
theorem cS_k : cS t vs cond elt d δ = cS1 (t.set 0 d δ) vs cond elt := Eq.trans rfl rfl
theorem cS1_k : cS1 (some δ) vs cond elt = cS2 (cond δ) vs elt := Eq.trans rfl rfl
theorem cS2_t : cS2 (.ok true δ) vs elt = cS3 (elt δ) vs := Eq.trans rfl rfl
theorem cS2_f : cS2 (.ok false δ) vs elt = some (none, wipeD δ vs) := Eq.trans rfl rfl
theorem cS3_k : cS3 (.ok m d δ) vs = some (some d, wipeD δ vs) := Eq.trans rfl rfl
theorem compL_step {o : Option D} {ds acc : List D} {δ' : DL.Env} (h : cS t vs cond elt d δ = some (o, δ')) (hl : acc.length < sizeLine) : compL t vs cond elt (d :: ds) acc δ = compL t vs cond elt ds (acc ++ o.toList) δ' := by
  rw [compL.eq_def]
  unfold cS cS1 at h
  cases h1 : t.set 0 d δ with
  | none => rw [h1] at h; cases h
  | some δ1 =>
    rw [h1] at h
    simp only [h1] at h ⊢
    unfold cS2 at h
    rcases h2 : cond δ1 with ⟨b, δ2⟩ | ⟨x, δ2⟩ | _
    · rw [h2] at h
      cases b with
      | false =>
        simp only [Option.some.injEq, Prod.mk.injEq, h2] at h ⊢
        obtain ⟨rfl, rfl⟩ := h
        simp
      | true =>
        simp only [h2] at h ⊢
        unfold cS3 at h
        rcases h3 : elt δ2 with ⟨k, y, δ3⟩ | ⟨x, δ3⟩ | _
        · rw [h3] at h
          simp only [Option.some.injEq, Prod.mk.injEq, h3] at h ⊢
          obtain ⟨rfl, rfl⟩ := h
          rw [if_pos hl]
          simp
        · rw [h3] at h; cases h
        · rw [h3] at h; cases h
    · rw [h2] at h; cases h
    · rw [h2] at h; cases h
end
theorem comp_map {α : Type} {g : α → D} {t : Tgt} {vs : List Nat} {cond : DL.Env → TRes} {elt : EV} {δ : DL.Env} (f : α → D) {xs : List α} {acc : List D} (h : ∀ a ∈ xs, cS t vs cond elt (g a) δ = some (some (f a), δ)) (hl : acc.length + xs.length ≤ 16777216) :
    compL t vs cond elt (xs.map g) acc δ = some (acc ++ xs.map f, δ) := by
  induction xs generalizing acc with
  | nil => simp [compL]
  | cons x xs ih =>
    rw [List.length_cons] at hl
    rw [List.map_cons, compL_step (h x List.mem_cons_self) (by unfold sizeLine; omega), ih (fun a ha => h a (List.mem_cons_of_mem _ ha)) (by simp; omega)]
    simp
theorem comp_filt {α : Type} {g : α → D} {t : Tgt} {vs : List Nat} {cond : DL.Env → TRes} {elt : EV} {δ : DL.Env} (f : α → D) (p : α → Bool) {xs : List α} {acc : List D} (h : ∀ a ∈ xs, cS t vs cond elt (g a) δ = some (if p a = true then some (f a) else none, δ)) (hl : acc.length + xs.length ≤ 16777216) :
    compL t vs cond elt (xs.map g) acc δ = some (acc ++ (xs.filter p).map f, δ) := by
  induction xs generalizing acc with
  | nil => simp [compL]
  | cons x xs ih =>
    rw [List.length_cons] at hl
    rw [List.map_cons, compL_step (h x List.mem_cons_self) (by unfold sizeLine; omega)]
    by_cases z : p x = true
    · rw [if_pos z, ih (fun a ha => h a (List.mem_cons_of_mem _ ha)) (by simp; omega), List.filter_cons_of_pos z]
      simp
    · rw [if_neg z, ih (fun a ha => h a (List.mem_cons_of_mem _ ha)) (by simp; omega), List.filter_cons_of_neg z]
      simp
theorem comp_inv {β : Type} {t : Tgt} {vs : List Nat} {cond : DL.Env → TRes} {elt : EV} {ds : List D} {acc : List D} {δ : DL.Env} {r : Option (List D × DL.Env)} (hC : compL t vs cond elt ds acc δ = r) (I : DL.Env → Prop) (f : β → D) (P : β → Prop) (h0 : I δ)
    (st : ∀ d ∈ ds, ∀ δ, I δ → ∃ b δ', cS t vs cond elt d δ = some (some (f b), δ') ∧ P b ∧ I δ') (hl : acc.length + ds.length ≤ 16777216) :
    ∃ (ys : List β) (δ' : DL.Env), r = some (acc ++ ys.map f, δ') ∧ I δ' ∧ ys.length = ds.length ∧ ∀ y ∈ ys, P y := by
  subst hC
  induction ds generalizing acc δ with
  | nil => exact ⟨[], δ, by simp [compL], h0, rfl, by simp⟩
  | cons d ds ih =>
    rw [List.length_cons] at hl
    obtain ⟨b, δ', e, hp, hI⟩ := st d List.mem_cons_self δ h0
    obtain ⟨ys, δ2, e2, h2, h3, h4⟩ := ih (acc := acc ++ [f b]) hI (fun d' hd => st d' (List.mem_cons_of_mem _ hd)) (by simp; omega)
    refine ⟨b :: ys, δ2, ?_, h2, by simp [h3], fun y hy => ?_⟩
    · rw [compL_step e (by unfold sizeLine; omega)]
      simp only [Option.toList_some, e2, List.map_cons, List.append_assoc, List.cons_append, List.nil_append]
    · rcases List.mem_cons.mp hy with rfl | hy
      · exact hp
      · exact h4 y hy
theorem comp_pick0 {α : Type} {g : α → D} {t : Tgt} {vs : List Nat} {cond : DL.Env → TRes} {elt : EV} {δ : DL.Env} (f : α → D) (P : α → Prop) {xs : List α} {acc : List D} (h : ∀ a ∈ xs, ∃ b : Bool, cS t vs cond elt (g a) δ = some (if b = true then some (f a) else none, δ) ∧ (b = true → P a)) (hl : acc.length + xs.length ≤ 16777216) :
    ∃ ys : List α, compL t vs cond elt (xs.map g) acc δ = some (acc ++ ys.map f, δ) ∧ ys.Sublist xs ∧ ∀ y ∈ ys, P y := by
  induction xs generalizing acc with
  | nil => exact ⟨[], by simp [compL], List.Sublist.refl _, by simp⟩
  | cons x xs ih =>
    rw [List.length_cons] at hl
    obtain ⟨b, e, hp⟩ := h x List.mem_cons_self
    rw [List.map_cons, compL_step e (by unfold sizeLine; omega)]
    cases b with
    | true =>
      obtain ⟨ys, e2, h2, h3⟩ := ih (acc := acc ++ [f x]) (fun a ha => h a (List.mem_cons_of_mem _ ha)) (by simp; omega)
      refine ⟨x :: ys, ?_, h2.cons_cons x, fun y hy => ?_⟩
      · simp only [if_true, Option.toList_some]
        rw [e2]
        simp
      · rcases List.mem_cons.mp hy with rfl | hy
        · exact hp rfl
        · exact h3 y hy
    | false =>
      obtain ⟨ys, e2, h2, h3⟩ := ih (acc := acc ++ []) (fun a ha => h a (List.mem_cons_of_mem _ ha)) (by simp; omega)
      refine ⟨ys, ?_, h2.cons x, h3⟩
      simp only [Bool.false_eq_true, if_false, Option.toList_none]
      rw [e2]
      simp
theorem comp_pick {α : Type} {g : α → D} {t : Tgt} {vs : List Nat} {cond : DL.Env → TRes} {elt : EV} {δ : DL.Env} {xs : List α} {acc : List D} {r : Option (List D × DL.Env)} (hC : compL t vs cond elt (xs.map g) acc δ = r) (f : α → D) (P : α → Prop)
    (h : ∀ a ∈ xs, ∃ b : Bool, cS t vs cond elt (g a) δ = some (if b = true then some (f a) else none, δ) ∧ (b = true → P a)) (hl : acc.length + xs.length ≤ 16777216) :
    ∃ ys : List α, r = some (acc ++ ys.map f, δ) ∧ ys.Sublist xs ∧ ∀ y ∈ ys, P y := hC ▸ comp_pick0 f P h hl
def Z0 (x : Option (Nat × D)) : Prop := ∀ k d, x ≠ some (k + 1, d)
theorem z0_n : Z0 none := fun _ _ h => by cases h
theorem z0_s {d : D} : Z0 (some (0, d)) := fun _ _ h => by cases h
theorem mg1_Z {x : Option (Nat × D)} (h : Z0 x) : mg1 x x = some x := mg1_o x fun k d e => absurd e (h k d)
section
variable {i j : Int} {m n : Nat} {δ : DL.Env}
theorem gMul_64 (h : -(2 ^ 100) ≤ i ∧ i ≤ 2 ^ 100) (h' : -(2 ^ 100) ≤ j ∧ j ≤ 2 ^ 100) : gMul (.int i) (.int j) = some (0, .int (i * j)) := gMul_b 101 101 (by omega) (by omega) (by decide) (by decide) (by decide)
theorem gDiv_64 (h : 0 < j ∧ j ≤ 2 ^ 100) : gDiv (.int i) (.int j) = some (0, .int (i.fdiv j)) := gDiv_b 101 (by omega) (by decide) (by omega) (by decide)
theorem gMod_p (h : 0 < j) : gMod (.int i) (.int j) = some (0, .int (i.fmod j)) := gMod_i (by omega)
theorem gPow_10 (h : 0 ≤ j ∧ j ≤ 1000) : gPow (.int 10) (.int j) = some (0, .int (10 ^ j.toNat)) := gPow_i ⟨h.1, by omega, by decide⟩
theorem kr1_b {k : Int} (h : -(2 ^ 62) ≤ k ∧ k < 2 ^ 62) : (ARes.ok [(m, .int k)] δ).kr1 = .ok (rangeD 0 k.toNat) δ := kr1_ok (inW_i h.1 h.2)
theorem kr2_b {k q : Int} (h : -(2 ^ 62) ≤ k ∧ k < 2 ^ 62) (h' : -(2 ^ 62) ≤ q ∧ q < 2 ^ 62) : (ARes.ok [(m, .int k), (n, .int q)] δ).kr2 = .ok (rangeD k (q - k).toNat) δ := kr2_ok (inW_i h.1 h.2) (inW_i h'.1 h'.2)
theorem ixN_b {n : Nat} {i : Int} (h : 0 ≤ i ∧ i < n) : ixN n i = some i.toNat := by
  unfold ixN
  rw [if_pos h.1, if_pos h.2]
theorem appO1_b {j k m : Nat} {p : List Nat} {ds : List D} {e d : D} (h' : joinM k m d = true) (h : ds.length < 16777216) : appO1 (some (.lst ds)) δ j k p e m d = .nx (put δ j (some (k + 1, e.put p (.lst (ds ++ [d]))))) := appO1_k h h'
theorem gListR_b {n : Int} (h : -(2 ^ 62) ≤ n ∧ n ≤ 16777216) : gListR (.int n) = some (1, .lst (rangeD 0 n.toNat)) := gListR_k (inW_i h.1 (by omega)) h.2
theorem popO1_b {j : Nat} {p : List Nat} {ds : List D} {e d : D} {n : Nat} (h : ds[n]? = some d) (hn : n < 2 ^ 60) : popO1 (some (.lst ds)) (n : Int) δ j p e = .ok 0 d (put δ j (some (1, e.put p (.lst (ds.eraseIdx n))))) := by
  have hl : n < ds.length := (List.getElem?_eq_some_iff.mp h).1
  rw [popO1_k, ixN_b (by omega), inW_i (by omega) (by omega), Int.toNat_natCast, popO2_k h]
theorem gAdd_lb {ds es : List D} (h : ds.length + es.length ≤ 16777216) : gAdd (.lst ds) (.lst es) = some (1, .lst (ds ++ es)) := gAdd_l h
end
end DL
namespace DL
open PySem PySem.Spec L2
open PyProof.Rows hiding St
abbrev P2 := Int × Int
def p2lt (p q : P2) : Bool := SrtO.lexB p q
def p2le (p q : P2) : Bool := !p2lt q p
theorem p2_trans (a b c : P2) : p2le a b = true → p2le b c = true → p2le a c = true := by
  unfold p2le p2lt
  simp only [Bool.not_eq_true']
  intro h1 h2
  rw [SrtO.lexB_no] at *
  omega
theorem p2_total (a b : P2) : (p2le a b || p2le b a) = true := by
  unfold p2le p2lt
  rcases h : SrtO.lexB b a with _ | _
  · rfl
  · have := SrtO.lexB_iff.mp h
    have h2 : SrtO.lexB a b = false := SrtO.lexB_no.mpr (by omega)
    rw [h2]; rfl
theorem p2_anti {a b : P2} (h1 : p2le a b = true) (h2 : p2le b a = true) : a = b := by
  unfold p2le p2lt at h1 h2
  simp only [Bool.not_eq_true'] at h1 h2
  rw [SrtO.lexB_no] at h1 h2
  exact Prod.ext (by omega) (by omega)
def sortP (ps : List P2) : List P2 := ps.mergeSort p2le
theorem sortP_perm (ps : List P2) : (sortP ps).Perm ps := List.mergeSort_perm _ _
theorem sortP_sorted (ps : List P2) : (sortP ps).Pairwise (fun a b => p2le a b = true) := List.pairwise_mergeSort p2_trans p2_total ps
theorem sortP_uniq {ps qs : List P2} (p : qs.Perm ps) (s : qs.Pairwise (fun a b => p2le a b = true)) : qs = sortP ps :=
  (p.trans (sortP_perm ps).symm).eq_of_pairwise (fun a b _ _ h1 h2 => p2_anti h1 h2) s (sortP_sorted ps)
def pD (p : P2) : D := .tup [.int p.1, .int p.2]
def rSortedPT (K : PySem.W.Frag) : List V → Hp → VK → Prop := fun vs H Q => ∃ (a : Addr) (zs : List (V × P2)), vs = [V.ref a] ∧ SqL K H a (zs.map (·.1)) ∧ (∀ z ∈ zs, ∃ t, z.1 = V.ref t ∧ SqT K H t [.int z.2.1, .int z.2.2]) ∧
  ∀ (ws : List (V × P2)) (p : Addr), ws.Perm zs → ws.Pairwise (fun x y => p2le x.2 y.2 = true) → H p = none → Q (.ref p) (upd H p (.lst (ws.map (·.1))))
section
variable {X : Cx}
open Classical in
theorem cr_sortedPT : CallR X (.builtin "sorted") (rSortedPT X.K) := by
  intro pins s σ H vs us Q I r h
  obtain ⟨a, zs, rfl, hs, hx, q⟩ := h
  obtain ⟨its, rv, hl, hz⟩ := I.list hs
  obtain ⟨u, rfl, ru⟩ := vals1 r
  obtain rfl : u = Value.ref a := ru
  have hx1 : ∀ x ∈ zs.map (·.1), ∃ t, x = V.ref t := fun x m => by
    obtain ⟨z, hz, rfl⟩ := List.mem_map.mp m
    obtain ⟨t, e, _⟩ := hx z hz
    exact ⟨t, e⟩
  obtain ⟨e1, e2⟩ := refs_back rv hx1
  have hk : ∃ k : V → P2, ∀ z ∈ zs, k z.1 = z.2 := by
    refine ⟨fun x => if h : ∃ p : P2, ∃ t, x = V.ref t ∧ SqT X.K H t [.int p.1, .int p.2] then Classical.choose h else (0, 0), fun z hz => ?_⟩
    obtain ⟨t, e, st⟩ := hx z hz
    have ex : ∃ p : P2, ∃ t, z.1 = V.ref t ∧ SqT X.K H t [.int p.1, .int p.2] := ⟨z.2, t, e, st⟩
    simp only [dif_pos ex]
    obtain ⟨t', e', st'⟩ := Classical.choose_spec ex
    rw [e] at e'
    cases e'
    have := I.tuple_inj st' st
    simp only [List.cons.injEq, V.int.injEq, and_true] at this
    exact Prod.ext this.1 this.2
  obtain ⟨k, hk⟩ := hk
  refine SrtO.sorted_pairsO (k := fun u => k (backV u)) hl.isList (by rw [← rv.length]; exact hz) (fun v hv => ?_) fun h' d out h1 h2 kp hd hn => ?_
  · obtain ⟨t, rfl⟩ := e2 v hv
    have hm : V.ref t ∈ zs.map (·.1) := by rw [e1]; exact List.mem_map.mpr ⟨_, hv, rfl⟩
    obtain ⟨z, hzm, ez⟩ := List.mem_map.mp hm
    obtain ⟨t', e, ht⟩ := hx _ hzm
    rw [ez] at e
    cases e
    obtain ⟨its2, r2, ⟨o, ho, hc, n, hd⟩, _⟩ := I.tuple ht
    obtain ⟨u1, u2, rfl, ri, rj⟩ := vals2 r2
    obtain ⟨t1, rfl⟩ := ri
    obtain ⟨t2, rfl⟩ := rj
    have hkz := hk z hzm
    rw [ez] at hkz
    refine ⟨t, o, t1, t2, n, rfl, ho, hc, ?_⟩
    show o.data = .seq #[.int (k (V.ref t)).1 t1, .int (k (V.ref t)).2 t2] n
    rw [hkz]
    exact hd
  · have h3 : ∀ u ∈ out, ∃ a, u = Value.ref a := fun u hu => e2 u (h2.perm.mem_iff.mp hu)
    obtain ⟨n, hn⟩ := hn
    have hp : (out.map backV).Perm (zs.map (·.1)) := by rw [e1]; exact h2.perm.map _
    have e5 : zs = (zs.map (·.1)).map fun x => (x, k x) := by
      rw [List.map_map]
      conv => lhs; rw [← List.map_id zs]
      refine List.map_congr_left fun z hz => ?_
      show z = (z.1, k z.1)
      rw [hk z hz]
    have hw : ((out.map backV).map fun x => (x, k x)).Perm zs := by
      conv => rhs; rw [e5]
      exact hp.map _
    have hso : ((out.map backV).map fun x => (x, k x)).Pairwise (fun x y => p2le x.2 y.2 = true) := by
      rw [List.pairwise_map, List.pairwise_map]
      refine h1.imp fun {x y} h => ?_
      show (!SrtO.lexB (k (backV y)) (k (backV x))) = true
      have h' : SrtO.lexB (k (backV y)) (k (backV x)) = false := h
      rw [h']; rfl
    have q2 := q _ d hw hso (I.hok.fresh hd)
    rw [List.map_map, show ((fun x : V × P2 => x.1) ∘ fun x => (x, k x)) = id from rfl, List.map_id] at q2
    refine ⟨.ref d, upd H d (.lst (out.map backV)), I.laid (t' := s.toks) kp hd ⟨?_, out, n, vals_back h3, hn⟩, rfl, q2⟩
    rw [hp.length_eq]
    exact hz
end
def D.prs : List D → Option (List P2)
  | [] => some []
  | .tup [.int i, .int j] :: ds => match D.prs ds with
    | some ps => some ((i, j) :: ps)
    | none => none
  | _ => none
theorem prs_map : ∀ ps : List P2, D.prs (ps.map pD) = some ps
  | [] => rfl
  | p :: ps => by
    show (match D.prs (ps.map pD) with | some ps => some ((p.1, p.2) :: ps) | none => none) = _
    rw [prs_map ps]
theorem prs_eq : ∀ {ds : List D} {ps : List P2}, D.prs ds = some ps → ds = ps.map pD
  | [], ps, h => by cases h; rfl
  | .tup [.int i, .int j] :: ds, ps, h => by
    have h : (match D.prs ds with | some ps => some ((i, j) :: ps) | none => none) = some ps := h
    cases e : D.prs ds with
    | none => rw [e] at h; cases h
    | some qs => rw [e] at h; cases h; rw [prs_eq e]; rfl
def gSortP : List D → Option (Nat × D)
  | [.lst ds] => match D.prs ds with
    | some ps => some (1, .lst ((sortP ps).map pD))
    | none => none
  | _ => none
theorem gSortP_k {ps : List P2} : gSortP [.lst (ps.map pD)] = some (1, .lst ((sortP ps).map pD)) := by
  show (match D.prs (ps.map pD) with | some ps => some (1, D.lst ((sortP ps).map pD)) | none => none) = _
  rw [prs_map]
section
variable {K : PySem.W.Frag} {H : Hp} {N : As}
theorem rps_pairs : ∀ {ps : List P2} {vs : List V}, Rps K H N 0 (ps.map pD) vs [] → vs.length = ps.length ∧ ∀ z ∈ vs.zip ps, ∃ t, z.1 = V.ref t ∧ SqT K H t [.int z.2.1, .int z.2.2]
  | [], vs, h => by
    simp only [List.map_nil, Rps] at h
    rw [h.1]; exact ⟨rfl, fun z hz => by cases hz⟩
  | p :: ps, vs, h => by
    simp only [List.map_cons, Rps] at h
    obtain ⟨v, vr, l1, l2, rfl, el, r1, r2⟩ := h
    have z1 := r1.zero; subst z1
    have el : [] = l2 := el
    subst el
    obtain ⟨i1, i2⟩ := rps_pairs r2
    obtain ⟨a, us, rfl, st, r⟩ := Rp.tup r1
    obtain ⟨v1, v2, rfl, q1, q2⟩ := r.two
    rw [q1.int, q2.int] at st
    refine ⟨by simp [i1], fun z hz => ?_⟩
    rw [List.zip_cons_cons] at hz
    rcases List.mem_cons.mp hz with rfl | hz
    · exact ⟨a, rfl, st⟩
    · exact i2 z hz
theorem pairs_rps : ∀ {zs : List (V × P2)}, (∀ z ∈ zs, ∃ t, z.1 = V.ref t ∧ SqT K H t [.int z.2.1, .int z.2.2]) → Rps K H N 0 ((zs.map (·.2)).map pD) (zs.map (·.1)) []
  | [], _ => by simp [Rps]
  | z :: zs, h => by
    obtain ⟨t, e, st⟩ := h z List.mem_cons_self
    have ih := pairs_rps (zs := zs) fun x hx => h x (List.mem_cons_of_mem _ hx)
    simp only [List.map_cons, Rps]
    refine ⟨_, _, [], [], rfl, rfl, ?_, ih⟩
    rw [e]
    show Rp K H N 0 (.tup [.int z.2.1, .int z.2.2]) (.ref t) []
    simp only [Rp]
    refine ⟨t, _, rfl, st, ?_⟩
    simp only [Rps]
    exact ⟨_, _, [], [], rfl, rfl, ⟨rfl, rfl⟩, _, _, [], [], rfl, rfl, ⟨rfl, rfl⟩, rfl, rfl⟩
end
theorem opf_sortP {K : PySem.W.Frag} : OpFN K (rSortedPT K) gSortP := by
  intro H B ds vs Q h ok
  unfold gSortP at ok
  split at ok
  · split at ok
    · rename_i ps e
      obtain ⟨v, rfl, r⟩ := h.one
      obtain ⟨a, us, rfl, ea, r⟩ := r.lst
      have e1 := prs_eq e
      subst e1
      obtain ⟨hl, hz⟩ := rps_pairs r
      have m1 : (us.zip ps).map (·.1) = us := List.map_fst_zip (by omega)
      have m2 : (us.zip ps).map (·.2) = ps := List.map_snd_zip (by omega)
      refine ⟨a, us.zip ps, rfl, by rw [m1]; exact SqL.of ea, hz, fun ws p pm so hp => ?_⟩
      have e2 : ws.map (·.2) = sortP ps := sortP_uniq (by rw [← m2]; exact pm.map _) (by rw [List.pairwise_map]; exact so)
      refine ok.lst ?_ p hp
      rw [← e2]
      exact pairs_rps fun z hz' => hz z (pm.mem_iff.mp hz')
    · exact ok.elim
  · exact ok.elim
section
variable {X : Cx} {W : WX} {e : Expr} {es : List Expr} {fs : DL.Env → ARes} {p : Pos} {pos : Pos}
theorem d_sortP (hm : X.mg "sorted" = none) (hg : Gl X "sorted") (h : DA X W (e :: es) fs) (he : starEach (e :: es) X.env = (false, eval e X.env) :: starEach es X.env := by rfl) (hpl : (backTo pos (starEach es X.env)).any (·.1) = false := by rfl) : DE X W (.Call (.Name "sorted" p) (e :: es) [] pos) (eN gSortP fs) := de_n (fun t ha => pe_callB cr_sortedPT hg hm (by decide +kernel) ha (he := he) (hpl := hpl)) opf_sortP h
end
end DL
namespace DL
open PySem PySem.Spec L2
open PyProof.Rows hiding St
def gAll : List D → Option (Nat × D)
  | [.lst ds] => match D.bools ds with
    | some bs => some (0, .bl (bs.all id))
    | none => none
  | _ => none
theorem opf_all {K : PySem.W.Frag} : OpFN K (rAll K) gAll := by
  intro H B ds vs Q h ok
  unfold gAll at ok
  split at ok
  · split at ok
    · rename_i ns e
      obtain ⟨v, rfl, r⟩ := h.one
      obtain ⟨a, us, rfl, ea, r⟩ := r.lst
      have e1 := r.bools e
      subst e1
      exact ⟨a, ns, rfl, SqL.of ea, ok.bl⟩
    · exact ok.elim
  · exact ok.elim
theorem gAll_bl (bs : List Bool) : gAll [.lst (bs.map .bl)] = some (0, .bl (bs.all id)) := by
  show (match D.bools (bs.map .bl) with | some bs => some (0, D.bl (bs.all id)) | none => none) = _
  rw [bools_bl]
section
variable {X : Cx} {W : WX} {F : List Nat} {e o y : Expr} {es : List Expr} {fs : DL.Env → ARes} {fe : EV} {i j : Nat} {p : List Nat} {pp pos apos cpos : Pos}
theorem d_all (hc : X.calm = true) (hm : X.mg "all" = none) (hg : Gl X "all") (h : DA X W (e :: es) fs) (he : starEach (e :: es) X.env = (false, eval e X.env) :: starEach es X.env := by rfl) (hpl : (backTo pos (starEach es X.env)).any (·.1) = false := by rfl) : DE X W (.Call (.Name "all" pp) (e :: es) [] pos) (eN gAll fs) := de_n (fun t ha => pe_callB (cr_all hc) hg hm (by decide +kernel) ha (he := he) (hpl := hpl)) opf_all h
def ePop0 (j : Nat) (p : List Nat) : EV := fun δ => match δ[j]? with
  | some (some (1, d1)) => (match d1.at p with
    | some (.lst ds) => (match ds[ds.length - 1]? with
      | some d => .ok 0 d (δ.set j (some (1, d1.put p (.lst (ds.eraseIdx (ds.length - 1))))))
      | none => .bad)
    | _ => .bad)
  | _ => .bad
theorem de_pop0 (mk : ∀ to, PE X o to → PE X (.Call (.Attribute o "pop" apos) [] [] cpos) (tBM0 X.K "list" rPop to)) (ho : DP X o j p) :
    DE X W (.Call (.Attribute o "pop" apos) [] [] cpos) (ePop0 j p) := by
  obtain ⟨to, po, qo⟩ := ho.ex
  refine ⟨_, mk to po, fun σ H δ L R Q s ok => ?_⟩
  unfold ePop0 at ok
  split at ok
  · rename_i d1 hd1
    split at ok
    · rename_i ds ha1
      split at ok
      · rename_i dd hdn
        have s2 : SR X.K σ H δ L ([] ++ R) := s
        obtain ⟨v', a, vs, l', L2, f1, f2, f3, f4, f5, f6⟩ := SR.mut s2 hd1 ha1
        refine qo σ H v' (.ref a) _ f1 f2 ⟨.inl ⟨rfl, vs, SqL.of f3⟩, ?_⟩
        have zl := f5.zero
        subst zl
        obtain ⟨y, hy, ry⟩ := f5.get hdn
        have hlen := f5.len
        have hnl : ds.length - 1 < ds.length := (List.getElem?_eq_some_iff.mp hdn).1
        have hdl : vs.dropLast = vs.eraseIdx (ds.length - 1) := by
          rw [hlen]
          exact (PyProof.Rows.Copied.eraseIdx_last vs).symm
        refine ⟨a, vs, y, rfl, rfl, f3, by rw [← hlen]; exact hy, ?_⟩
        rw [hdl]
        have s3 := f6 (ds.eraseIdx (ds.length - 1)) (vs.eraseIdx (ds.length - 1)) [] [] (by simp) (f5.erase0 (ds.length - 1))
        have al : a ∈ L := f4.mem_iff.mpr (by simp)
        have ka : Kp H (upd H a (.lst (vs.eraseIdx (ds.length - 1)))) [a] := ⟨fun b o q n => by rw [upd_ne (by simpa using n)]; exact q, fun b hb => (List.mem_singleton.mp hb) ▸ s.own a al⟩
        have memN : ∀ x ∈ ([a] ++ L2) ++ R, x ∈ L ++ ([] ++ R) := fun x hx => by
          rcases List.mem_append.mp hx with hx | hx
          · exact List.mem_append_left _ (f4.mem_iff.mpr (by simpa using hx))
          · exact List.mem_append_right _ (by simpa using hx)
        have ry2 : Rp X.K (upd H a (.lst (vs.eraseIdx (ds.length - 1)))) (([a] ++ L2) ++ ([] ++ R)) 0 dd y [] := ry.step ka (fun x hx => by rw [List.mem_singleton.mp hx]; exact List.mem_append_left _ al) (fun x hx => .inl (memN x (by simpa using hx))) (fun x hx => by cases hx)
        refine ok y _ [] ([a] ++ L2) (kp_mut s.kp Nw.refl al) (fun x hx => ?_) (by simpa using s3) (ry2.sub fun x hx => hx)
        have hx : x ∈ [a] ++ L2 := by simpa using hx
        exact .inl (f4.mem_iff.mpr (by simpa using hx))
      · exact ok.elim
    · exact ok.elim
  · exact ok.elim
theorem d_pop0 (ho : DP X o j p) (hbase : attributeBase o "pop" X.env (eval o X.env) = eval o X.env := by rfl) (hline : (apos.endLine == cpos.line) = true := by rfl) :
    DE X W (.Call (.Attribute o "pop" apos) [] [] cpos) (ePop0 j p) :=
  de_pop0 (fun to ho => pe_bm0 PySem.F.plainAttrs_list PySem.F.slot_list_pop PySem.F.type_list_pop mt_pop ho (hbase := hbase) (hline := hline)) ho
def eIdx (f g : EV) : EV := fun δ => match f δ with
  | .ok _ (.lst ds) δ1 => (match g δ1 with
    | .ok _ e δ2 => toRes δ2 (gIdx e (.lst ds))
    | r => r)
  | .ok _ _ _ => .bad
  | r => r
theorem de_idx {f g : EV} (mk : ∀ to te, PE X o to → PE X e te → PE X (.Call (.Attribute o "index" apos) [e] [] cpos) (tBM X.K "list" (rIndex X.K) to (tCons te tNil))) (ho : DE X W o f) (he : DE X W e g) :
    DE X W (.Call (.Attribute o "index" apos) [e] [] cpos) (eIdx f g) := by
  obtain ⟨to, po, qo⟩ := ho.ex
  obtain ⟨te, pe, qe⟩ := he.ex
  refine ⟨_, mk to te po pe, fun σ H δ L R Q s ok => ?_⟩
  unfold eIdx at ok
  refine qo σ H δ L R _ s ?_
  cases hf : f δ with
  | bad => rw [hf] at ok; exact ok
  | exc x δ' => rw [hf] at ok; exact ok
  | ok m d δ1 =>
    rw [hf] at ok
    intro v H1 l1 L1 k1 w1 s1 r1
    cases d with
    | lst ds =>
      simp only at ok
      obtain ⟨y1, y2⟩ := fz_at s1
      have r1z := r1.fz y1 y2
      obtain ⟨a, vs, rfl, e1, r1'⟩ := r1z.lst
      refine ⟨.inl ⟨rfl, vs, SqL.of e1⟩, ?_⟩
      refine qe σ H1 δ1 L1 (l1 ++ R) _ s1 ?_
      cases hg : g δ1 with
      | bad => rw [hg] at ok; exact ok
      | exc x δ' => rw [hg] at ok; exact XOk.more k1 w1 ok
      | ok n e δ2 =>
        rw [hg] at ok
        intro u H2 l2 L2 k2 w2 s2 r2
        obtain ⟨z1, z2⟩ := tmp_step s1 k2 w2
        have r1b := r1.step k2 (fun a ha => List.mem_append_left _ ha) z2 z1
        have s2' : SR X.K σ H2 δ2 L2 ((l2 ++ l1) ++ R) := by rw [List.append_assoc]; exact s2
        have r1c : Rp X.K H2 (L2 ++ ((l2 ++ l1) ++ R)) m (.lst ds) (.ref a) l1 := by rw [List.append_assoc]; exact r1b
        have r2c : Rp X.K H2 (L2 ++ ((l2 ++ l1) ++ R)) n e u l2 := by rw [List.append_assoc]; exact r2
        obtain ⟨x1, x2⟩ := fz_at s2'
        have a1 : Nw H L (l2 ++ L2) := Nw.trans k1 w1.right w2
        have w12 : Nw H L ((l2 ++ l1) ++ L2) := Nw.both (Nw.both a1.left w1.left) a1.right
        have ok2 := fin_new (k1.trans w1.right k2) w12 s2' ok
        have q1 := r1c.fz (fun a ha => x1 a (List.mem_append_right _ ha)) x2
        have q2 := r2c.fz (fun a ha => x1 a (List.mem_append_left _ ha)) x2
        obtain ⟨a', vs', ea, e2, r1d⟩ := q1.lst
        cases ea
        unfold gIdx at ok2
        simp only at ok2
        split at ok2
        · rename_i hc
          simp only [Bool.and_eq_true] at hc
          split at ok2
          · rename_i jj hj
            obtain ⟨f1, _⟩ := Rps.flats q2 hc.1 r1d hc.2
            obtain ⟨h1, h2, h3⟩ := List.findIdx?_eq_some_iff_getElem.mp hj
            have hl := Rps.len r1d
            obtain ⟨w, hw, rw'⟩ := Rps.get r1d (List.getElem?_eq_getElem h1)
            refine ⟨a, vs', u, jj, w, rfl, rfl, SqL.of e2, q2.flat hc.1, f1, hw, ?_, fun m z' hm hz' => ?_, ok2.int⟩
            · rw [rw'.eqA q2 (List.all_eq_true.mp hc.2 _ (List.getElem_mem _)) hc.1]; exact h2
            · obtain ⟨e, he, ee⟩ := idx_eqA q2 hc.1 r1d hc.2 hz'
              rw [ee]
              have := h3 m hm
              rw [List.getElem?_eq_getElem (by omega)] at he
              cases he
              simpa using this
          · exact ok2.elim
        · exact ok2.elim
    | _ => exact ok.elim
theorem d_indexE {f g : EV} (ho : DE X W o f) (he : DE X W e g)
    (hbase : attributeBase o "index" X.env (eval o X.env) = eval o X.env := by rfl)
    (hfew : ((backTo cpos (starEach (e :: []) X.env)).all (fun x => !x.1) && (backToKw cpos (keywordEach [] X.env)).all (fun x => x.1.isSome)
      && decide ((e :: ([] : List Expr)).length + ([] : List Keyword).length + (if ([] : List Keyword).isEmpty then 0 else 1) < 30)) = true := by rfl)
    (hline : (apos.endLine == cpos.line) = true := by rfl) (hs : starEach (e :: []) X.env = (false, eval e X.env) :: starEach [] X.env := by rfl) (hplain : (backTo cpos (starEach [] X.env)).any (·.1) = false := by rfl) :
    DE X W (.Call (.Attribute o "index" apos) [e] [] cpos) (eIdx f g) :=
  de_idx (fun to te ho he => pe_bm PySem.F.plainAttrs_list PySem.F.slot_list_index PySem.F.type_list_index mt_index ho (pa_cons he pa_nil hs) (hbase := hbase) (hfew := hfew) (hline := hline) (hs := hs) (hplain := hplain)) ho he
def sAppV (j i : Nat) (f : EV) : SV := fun δ => match δ[i]? with
  | some (some (_, .int n)) => if 0 ≤ n then sApp j [n.toNat] f δ else .bad
  | _ => .bad
structure DPv (X : Cx) (o : Expr) (j i : Nat) : Prop where
  ex : ∃ t, PE X o t ∧ ∀ σ H v w (n : Nat) (Q : VK), σ[j]? = some (some v) → σ[i]? = some (some (.int (n : Int))) → PathV X.K H v [n] w → Q w H → t σ H Q
theorem dpv (h : PE X o (tVar j)) (hi : PE X y (tVar i)) (hs : PlainIx y) : DPv X (.Subscript o y pos) j i :=
  ⟨_, pe_ix ix_tup h hi hs, fun σ H v w n Q hv hn hp q => by
    obtain ⟨a, vs, u, rfl, h1, h2, h3⟩ := hp
    cases (show u = w from h3)
    exact ⟨_, hv, _, hn, a, vs, (n : Int), w, rfl, rfl, SqT.of h1, atI_nat' h2, q⟩⟩
theorem app_core {W : WX} {to te : TE} {σ : L2.St} {H : Hp} {δ : DL.Env} {L R : As} {D : Ends} (qo : ∀ v w (Q : VK), σ[j]? = some (some v) → PathV X.K H v p w → Q w H → to σ H Q)
    (qe : ∀ σ H δ L R Q, SR X.K σ H δ L R → EOk X W σ H L R Q (fe δ) → te σ H Q) (s : SR X.K σ H δ L R) (ok : SOk X W F σ H L R D (sApp j p fe δ)) : tDrop (tBM X.K "list" rAppend to (tCons te tNil)) D σ H := by
  unfold sApp at ok
  split at ok
  · rename_i m0 d0 hd0
    split at ok
    · rename_i ds0 ha0
      obtain ⟨v, a, vs0, g1, g2, g3⟩ := own_at s hd0 ha0
      refine qo v (.ref a) _ g1 g2 ⟨.inl ⟨rfl, vs0, SqL.of g3⟩, ?_⟩
      refine qe σ H δ L R _ s ?_
      cases hf : fe δ with
      | bad => rw [hf] at ok; exact ok
      | exc x δ' => rw [hf] at ok; exact XOk.st ok
      | ok m d δ1 =>
        rw [hf] at ok
        simp only at ok
        intro u H1 l L1 k w s1 rp
        split at ok
        · rename_i kk d1 hd1
          split at ok
          · rename_i ds ha1
            split at ok
            · rename_i hc
              have hz : ∀ x ∈ l, x ∉ L1 ++ R := (fz_at s1).1
              obtain ⟨l1, hl1, r1⟩ := join_of (B := L1 ++ R) rp hc.2 hz (fun x => mem3.trans or_comm)
              have sub1 : l1.Sublist l := by rcases hl1 with rfl | rfl; exact List.nil_sublist _; exact List.Sublist.refl _
              have s2 : SR X.K σ H1 δ1 L1 (l1 ++ R) := s1.less (List.Sublist.append sub1 (List.Sublist.refl _))
              obtain ⟨v', a', vs, l', L2, f1, f2, f3, f4, f5, f6⟩ := SR.mut s2 hd1 ha1
              rw [g1] at f1; cases f1
              have := PathV.uniq (PathV.step k g2) f2
              cases this
              refine ⟨a, vs, u, rfl, rfl, f3, by rw [← f5.len]; exact hc.1, ?_⟩
              have r2 : Rps X.K H1 (L1 ++ (l1 ++ R)) kk [d] [u] l1 := by
                simp only [Rps]
                exact ⟨u, [], l1, [], rfl, by simp, r1.sub fun x hx => List.mem_append.mpr ((mem3.mp hx).symm), rfl, rfl⟩
              have s3 := f6 (ds ++ [d]) (vs ++ [u]) (l' ++ l1) [] (by simp) (f5.app r2)
              have al : a ∈ L1 := f4.mem_iff.mpr (by simp)
              refine ok σ _ _ (kp_mut k (w.right) al) (fun x hx => ?_) s3 Fix.refl
              rcases List.mem_append.mp hx with hx | hx
              · rcases List.mem_cons.mp hx with rfl | hx
                · exact w.right _ al
                · rcases List.mem_append.mp hx with hx | hx
                  · exact w.right x (f4.mem_iff.mpr (by simp [hx]))
                  · exact w.left x (sub1.subset hx)
              · exact w.right x (f4.mem_iff.mpr (List.mem_append_right _ hx))
            · exact ok.elim
          · exact ok.elim
        · exact ok.elim
    · exact ok.elim
  · exact ok.elim
theorem ds_appendV (mk : ∀ to te, PE X o to → PE X e te → PS X (.Expr (.Call (.Attribute o "append" apos) [e] [] cpos) pos) (tDrop (tBM X.K "list" rAppend to (tCons te tNil)))) (ho : DPv X o j i) (he : DE X W e fe) :
    DS X W F (.Expr (.Call (.Attribute o "append" apos) [e] [] cpos) pos) (sAppV j i fe) := by
  obtain ⟨to, po, qo⟩ := ho.ex
  obtain ⟨te, pe, qe⟩ := he.ex
  refine ⟨_, mk to te po pe, fun σ H δ L R D s ok => ?_⟩
  unfold sAppV at ok
  split at ok
  · rename_i m n hn
    split at ok
    · rename_i h0
      obtain ⟨v, l, L2, g1, _, g3, _⟩ := s.get hn
      have hv : v = .int n ∧ l = [] := by simpa only [Rp] using g3
      obtain ⟨rfl, _⟩ := hv
      refine app_core (fun v w Q hv hp q => qo σ H v w n.toNat Q hv ?_ hp q) qe s ok
      rw [Int.toNat_of_nonneg h0]
      exact g1
    · exact ok.elim
  · exact ok.elim
theorem d_appendV (ho : DPv X o j i) (he : DE X W e fe) (hbase : attributeBase o "append" X.env (eval o X.env) = eval o X.env := by rfl)
    (hfew : ((backTo cpos (starEach (e :: []) X.env)).all (fun x => !x.1) && (backToKw cpos (keywordEach [] X.env)).all (fun x => x.1.isSome)
      && decide ((e :: ([] : List Expr)).length + ([] : List Keyword).length + (if ([] : List Keyword).isEmpty then 0 else 1) < 30)) = true := by rfl)
    (hline : (apos.endLine == cpos.line) = true := by rfl) (hs : starEach (e :: []) X.env = (false, eval e X.env) :: starEach [] X.env := by rfl) (hplain : (backTo cpos (starEach [] X.env)).any (·.1) = false := by rfl)
    (hsw : swapsWith (.Call (.Attribute o "append" apos) [e] [] cpos) none pos.line X.env = pure false := by rfl) :
    DS X W F (.Expr (.Call (.Attribute o "append" apos) [e] [] cpos) pos) (sAppV j i fe) :=
  ds_appendV (fun to te ho he => ps_expr (pe_bm PySem.F.plainAttrs_list PySem.F.slot_list_append PySem.F.type_list_append mt_append ho (pa_cons he pa_nil hs) (hbase := hbase) (hfew := hfew) (hline := hline) (hs := hs) (hplain := hplain)) hsw) ho he
end
section
variable {X : Cx} {W : WX} {e' : Expr} {es : List Expr} {ks : List (Option Nat)} {fs : DL.Env → ARes} {pm : List Nat} {φ : FV}
theorem de_callT (t : TA) (q : ∀ σ H δ L R Q, SR X.K σ H δ L R → COk X W σ H L R ks Q (fs δ) → t σ H Q) (pe : PE X e' (tCallS (spD X.K X.mg pm φ) (WE W) t)) : DE X W e' (eCall pm ks φ fs) := by
  refine ⟨_, pe, fun σ H δ L R Q s ok => q σ H δ L R _ s ?_⟩
  unfold eCall at ok
  cases hf : fs δ with
  | bad => rw [hf] at ok; exact ok
  | exc x δ' => rw [hf] at ok; exact ok
  | ok ps δ1 =>
    rw [hf] at ok
    simp only [callD] at ok
    intro vs H1 l L1 k w s1 rc
    cases hb : bindD pm ks ps δ1 with
    | none => rw [hb] at ok; exact ok.elim
    | some ds =>
      rw [hb] at ok
      simp only at ok
      obtain ⟨lk, ld, pk, rk⟩ := RpC.fzp (pm := pm) rc
      have pl : (L1 ++ (l ++ R)).Perm (ld ++ (L1 ++ (lk ++ R))) := by
        have h1 : (L1 ++ (l ++ R)).Perm (L1 ++ ((ld ++ lk) ++ R)) := List.Perm.append_left L1 (List.Perm.append_right R (pk.symm.trans List.perm_append_comm))
        refine h1.trans ?_
        rw [List.append_assoc ld lk R, ← List.append_assoc L1 ld, ← List.append_assoc ld L1]
        exact List.Perm.append_right _ List.perm_append_comm
      have nd1 := pl.nodup_iff.mp s1.nd
      have rf := rk (L1 ++ (lk ++ R)) (fun a ha => pl.mem_iff.mpr (List.mem_append_right _ ha)) (fun a h1 h2 => (List.nodup_append.mp nd1).2.2 a h1 a h2 rfl)
      have sp : (l ++ R).Perm (ld ++ (lk ++ R)) := by
        refine (List.Perm.append_right R (pk.symm.trans List.perm_append_comm)).trans ?_
        rw [List.append_assoc]
      have s2 : SR X.K σ H1 δ1 L1 (lk ++ R) := (s1.perm (List.Perm.refl _) sp).less (List.sublist_append_right _ _)
      obtain ⟨l0, L2, q1, q2, q3⟩ := take_lents hb rf s2 (fun a => Iff.rfl)
      obtain ⟨nd, hsl⟩ := bind_nodup hb
      have pAll : (l0 ++ (L2 ++ R)).Perm (L1 ++ (lk ++ R)) := by
        rw [← List.append_assoc]
        refine (List.Perm.append_right R q3.symm).trans ?_
        rw [← List.append_assoc]
        exact List.Perm.append_right R List.perm_append_comm
      have hnone : ∀ j ∈ lendsIn ks, (noneD ks δ1)[j]? = some none := fun j hj => by
        obtain ⟨p, hp⟩ := hsl j hj
        exact noneD_get (.inr ⟨hj, (List.getElem?_eq_some_iff.mp hp).1⟩)
      have ownR : ∀ a ∈ L2 ++ R, IsOwn H1 a := fun a ha => (List.mem_append.mp ha).elim (q1.own a) fun z => q1.tr a (List.mem_append_right _ z)
      refine ⟨ds, l0, L2 ++ R, ?_, pAll.nodup_iff.mpr s2.nd, ownR, ?_⟩
      · have subm : ∀ {pm : List Nat} {ds : List D} {vs : List V} {l N N' : As}, (∀ a ∈ N', a ∈ N) → RpM X.K H1 N pm ds vs l → RpM X.K H1 N' pm ds vs l := by
          intro pm
          induction pm with
          | nil => intro ds vs l N N' _ h; exact h
          | cons m ms ih =>
            intro ds vs l N N' hN h
            obtain ⟨d, dr, v, vr, l1, l2, e1, e2, e3, r1, r2⟩ := h
            exact ⟨d, dr, v, vr, l1, l2, e1, e2, e3, r1.sub hN, ih hN r2⟩
        exact subm (fun a ha => pAll.mem_iff.mp ha) q2
      -- behind the call
      · have wl : ∀ a ∈ lk ++ L1, a ∈ l ++ L1 := fun a ha => by
          rcases List.mem_append.mp ha with ha | ha
          · exact List.mem_append_left _ (pk.mem_iff.mp (List.mem_append_left _ ha))
          · exact List.mem_append_right _ ha
        have wl0 : ∀ a ∈ l0, a ∈ l ++ L1 := fun a ha => wl a (q3.mem_iff.mpr (List.mem_append_left _ ha))
        have wL2 : ∀ a ∈ L2, a ∈ l ++ L1 := fun a ha => wl a (q3.mem_iff.mpr (List.mem_append_right _ ha))
        have kk : ∀ {H2 : Hp}, Kp H1 H2 l0 → Kp H H2 L := fun {H2} c => by
          have c2 : Kp H1 H2 (l ++ L1) := ⟨fun a o e n => c.kp a o e fun z => n (wl0 a z), fun a ha => (List.mem_append.mp ha).elim (fun q => s1.tr a (List.mem_append_left _ q)) (s1.own a)⟩
          exact k.trans w c2
        have ww : ∀ {l3 : As}, Nw H1 l0 l3 → Nw H L l3 := fun {l3} z => by
          refine Nw.trans k w fun a ha => ?_
          exact (z a ha).imp_left (wl0 a)
        have back : ∀ {H2 : Hp} {outs : List D} {δ2 : DL.Env} {l2 L' : As}, Kp H1 H2 l0 → Nw H1 l0 (l2 ++ L') → (L' ++ (l2 ++ (L2 ++ R))).Nodup → (∀ a ∈ l2 ++ (L2 ++ R), IsOwn H2 a) → RpO X.K H2 (L' ++ (l2 ++ (L2 ++ R))) pm outs vs L' →
            backD pm ks outs (noneD ks δ1) = some δ2 → ∃ L3, (∀ a ∈ L3, a ∈ L' ++ L2) ∧ SR X.K σ H2 δ2 L3 (l2 ++ R) := by
          intro H2 outs δ2 l2 L' c z nd2 own2 ro hbk
          have io : ∀ a ∈ L', IsOwn H2 a := ro_own ro
          have pm2 : (L2 ++ (L' ++ (l2 ++ R))).Perm (L' ++ (l2 ++ (L2 ++ R))) := by
            refine List.perm_append_comm.trans ?_
            rw [List.append_assoc, List.append_assoc]
            refine List.Perm.append_left L' (List.Perm.append_left l2 ?_)
            exact List.perm_append_comm
          have s3 : SR X.K σ H2 (noneD ks δ1) L2 (L' ++ (l2 ++ R)) := by
            refine q1.step c (fun a ha => List.mem_append_left _ ha) (pm2.nodup_iff.mpr nd2) (fun a ha => ?_) fun a ha => ?_
            · rcases List.mem_append.mp ha with ha | ha
              · exact (z a (List.mem_append_right _ ha)).imp_left fun q => List.mem_append_left _ q
              · rcases List.mem_append.mp ha with ha | ha
                · exact (z a (List.mem_append_left _ ha)).imp_left fun q => List.mem_append_left _ q
                · exact .inl (List.mem_append_right _ ha)
            · rcases List.mem_append.mp ha with ha | ha
              · exact io a ha
              · rcases List.mem_append.mp ha with ha | ha
                · exact own2 a (List.mem_append_left _ ha)
                · exact own2 a (List.mem_append_right _ (List.mem_append_right _ ha))
          exact put_lents hbk rf ro s3 (fun a ha => pm2.mem_iff.mp ha) hnone nd
        cases hφ : φ ds with
        | bad => rw [hφ] at ok; exact ok
        | ok m d outs =>
          rw [hφ] at ok
          simp only at ok
          cases hbk : backD pm ks outs (noneD ks δ1) with
          | none => rw [hbk] at ok; exact ok.elim
          | some δ2 =>
            rw [hbk] at ok
            intro v H2 l2 L' c z nd2 own2 rp ro
            obtain ⟨L3, p3, s3⟩ := back c z nd2 own2 ro hbk
            refine ok v H2 l2 L3 (kk c) (Nw.both (ww z.left) fun a ha => ?_) s3 (rp.sub fun a ha => ?_)
            · rcases List.mem_append.mp (p3 a ha) with ha | ha
              · exact ww z.right a ha
              · exact w a (wL2 a ha)
            · rcases List.mem_append.mp ha with ha | ha
              · rcases List.mem_append.mp (p3 a ha) with ha | ha <;> simp [ha]
              · rcases List.mem_append.mp ha with ha | ha <;> simp [ha]
        | exc x outs =>
          rw [hφ] at ok
          simp only at ok
          cases hbk : backD pm ks outs (noneD ks δ1) with
          | none => rw [hbk] at ok; exact ok.elim
          | some δ2 =>
            rw [hbk] at ok
            intro cc dx H2 L' c z nd2 own2 rx ro
            obtain ⟨L3, p3, s3⟩ := back (l2 := []) c (by simpa using z) (by simpa using nd2) (by simpa using own2) (by simpa using ro) hbk
            refine ok cc dx H2 L3 (kk c) (fun a ha => ?_) (by simpa using s3) (rx.step Kp.refl (fun _ z => by cases z) fun a ha => .inl ?_)
            · rcases List.mem_append.mp (p3 a ha) with ha | ha
              · exact ww z a ha
              · exact w a (wL2 a ha)
            · rcases List.mem_append.mp ha with ha | ha
              · rcases List.mem_append.mp (p3 a ha) with ha | ha <;> simp [ha]
              · simp [ha]
end
section
variable {X : Cx} {CX : CXT} {k j : Nat} {f : Addr} {fd : FuncData} {ps : List Str} {sp : Sp} {E : St → XK} {x : Str} {p pos : Pos} {W : WX} {pm : List Nat} {φ : FV}
theorem pe_callS0 (F : FnOk X.prog X.w X.K X.mg X.base CX k f fd ps sp) (hr : Room k X.A) (hg : Gl X x) (hm : X.mg x = some (.ref f)) (hk : PySem.W.keepIn X.K (.ref f) = true) (hb : Binds X.K fd ps []) (hx : ∀ σ, PassesAt CX X σ (E σ))
    (hdb : (x == ("__debug__" : Str)) = false := by decide) : PE X (.Call (.Name x p) [] [] pos) (tCallS sp E tNil) := by
  refine ⟨fun pins s σ H Q I h => ?_⟩
  refine wpAny_Call_Name_kw (ld_glob I hg hm ?_ hdb)
  exact PySem.W.callWith_K0 I.kIn hk (run_fnS (us := []) F hr hb (hx σ) I .nil h)
theorem d_call0 (c : FD X.prog X.w X.K X.mg X.base k x ps pm φ) (tk : Takes X W) (hr : Room j X.A) (hk : k ≤ j) (hg : Gl X x)
    (hdb : (x == ("__debug__" : Str)) = false := by decide) : DE X W (.Call (.Name x p) [] [] pos) (eCall pm [] φ aNil) := by
  obtain ⟨f, fd, h1, h2, h3, h4⟩ := c.ex
  exact de_callT tNil (fun σ H δ L R Q s ok => ok [] H [] L s.kp Nw_nil s ⟨rfl, rfl, rfl⟩) (pe_callS0 h4 (hr.mono hk) hg h1 h2 h3 (fun σ => passAt tk σ) hdb)
end
section
variable {δ : DL.Env} {f g fe : EV} {d e : D} {ds : List D} {m i j : Nat} {p : List Nat} {n : Int}
def pop0_1 (o : Option D) (j : Nat) (p : List Nat) (d1 : D) (δ : DL.Env) : Res := match o with
  | some (.lst ds) => (match ds[ds.length - 1]? with
    | some d => .ok 0 d (put δ j (some (1, d1.put p (.lst (ds.eraseIdx (ds.length - 1))))))
    | none => .bad)
  | _ => .bad
def pop0_0 (o : Option (Nat × D)) (j : Nat) (p : List Nat) (δ : DL.Env) : Res := match o with
  | some (1, d1) => pop0_1 (d1.at p) j p d1 δ
  | _ => .bad
theorem ePop0_k : ePop0 j p δ = pop0_0 (look δ j) j p δ := by
  unfold ePop0 pop0_0
  rw [look_eq]
  rcases h : δ[j]? with _ | (_ | ⟨_ | _ | m, d⟩) <;> try rfl
  simp only [Option.join_some, pop0_1, put_eq]
  all_goals (rcases d.at p with _ | e; rfl; cases e <;> rfl)
theorem pop0_0k : pop0_0 (some (1, d)) j p δ = pop0_1 (d.at p) j p d δ := Eq.trans rfl rfl
theorem pop0_1k {d1 : D} (h : ds[ds.length - 1]? = some d) : pop0_1 (some (.lst ds)) j p d1 δ = .ok 0 d (put δ j (some (1, d1.put p (.lst (ds.eraseIdx (ds.length - 1)))))) := by
  unfold pop0_1
  simp only [h]
def Res.kidx (r : Res) (g : EV) : Res := match r with
  | .ok _ d δ1 => (match d with
    | .lst ds => (match g δ1 with
      | .ok _ e δ2 => toRes δ2 (gIdx e (.lst ds))
      | r => r)
    | _ => .bad)
  | r => r
def Res.kidx2 (r : Res) (ds : List D) : Res := match r with
  | .ok _ e δ2 => toRes δ2 (gIdx e (.lst ds))
  | r => r
theorem eIdx_k : eIdx f g δ = (f δ).kidx g := by
  unfold eIdx Res.kidx
  cases f δ with
  | ok m d δ1 => cases d <;> rfl
  | _ => rfl
theorem kidx_ok : (Res.ok m (.lst ds) δ).kidx g = (g δ).kidx2 ds := by
  show (match g δ with | .ok _ e δ2 => toRes δ2 (gIdx e (.lst ds)) | r => r) = _
  cases g δ <;> rfl
theorem kidx2_ok : (Res.ok m e δ).kidx2 ds = toRes δ (gIdx e (.lst ds)) := Eq.trans rfl rfl
def appV (o : Option (Nat × D)) (j : Nat) (f : EV) (δ : DL.Env) : SRes := match o with
  | some (_, .int n) => if 0 ≤ n then sApp j [n.toNat] f δ else .bad
  | _ => .bad
theorem sAppV_k : sAppV j i f δ = appV (look δ i) j f δ := by
  unfold sAppV appV
  rw [look_eq]
  rcases h : δ[i]? with _ | (_ | ⟨m, d⟩) <;> try rfl
  cases d <;> rfl
theorem appV_k (h : 0 ≤ n) : appV (some (m, .int n)) j f δ = sApp j [n.toNat] f δ := by
  show (if 0 ≤ n then _ else _) = _
  rw [if_pos h]
end
end DL
namespace DL
open PySem PySem.Spec L2
open PyProof.Rows hiding St
def PathL (H : Hp) (v : V) (c : Nat) (w : V) : Prop := ∃ b us, v = .ref b ∧ H b = some (.lst us) ∧ us[c]? = some w
section
variable {K : PySem.W.Frag} {H : Hp} {N : As}
theorem Rp.pathL {m c : Nat} {ds0 es : List D} {v : V} {l : As} (h : Rp K H N (m + 2) (.lst ds0) v l) (e : ds0[c]? = some (.lst es)) :
    ∃ w l1 l2, PathL H v c w ∧ l.Perm (l1 ++ l2) ∧ Rp K H N (m + 1) (.lst es) w l1 ∧
      ∀ (H' : Hp) (N' X : As) (e : D) (l1' : As), Kp H H' X → (∀ a ∈ X, a ∈ N) → Nw H N N' → (∀ a ∈ l2, a ∉ X) → Rp K H' N' (m + 1) e w l1' → ∃ l', l'.Perm (l1' ++ l2) ∧ Rp K H' N' (m + 2) (.lst (ds0.set c e)) v l' := by
  simp only [Rp] at h
  obtain ⟨a, vs, l', rfl, hA, rfl, hr⟩ := h
  obtain ⟨u, l1, l2, h1, h2, h3, h4⟩ := hr.split e
  refine ⟨u, l1, a :: l2, ⟨a, vs, rfl, hA, h1⟩, ?_, h3, fun H' N' X e l1' k hX w n r => ?_⟩
  · exact (List.Perm.cons a h2).trans List.perm_middle.symm
  · obtain ⟨l'', q1, q2⟩ := h4 H' N' X e u l1' k hX w (fun b hb => n b (List.mem_cons_of_mem _ hb)) r
    rw [set_same h1] at q2
    refine ⟨a :: l'', (List.Perm.cons a q1).trans List.perm_middle.symm, ?_⟩
    simp only [Rp]
    exact ⟨a, vs, l'', rfl, k.kp _ _ hA (n a List.mem_cons_self), rfl, q2⟩
theorem SR.mutL {σ : L2.St} {δ : Env} {L R lt : As} {j m : Nat} {ds0 : List D} {c : Nat} {ds : List D} (s : SR K σ H δ L (lt ++ R)) (e : δ[j]? = some (some (m + 2, .lst ds0))) (ea : ds0[c]? = some (.lst ds)) :
    ∃ v a vs l' L2, σ[j]? = some (some v) ∧ PathL H v c (.ref a) ∧ H a = some (.lst vs) ∧ L.Perm ((a :: l') ++ L2) ∧ Rps K H (L ++ (lt ++ R)) m ds vs l' ∧
      ∀ ds' vs' l'' rest, (l'' ++ rest).Perm (l' ++ lt) → Rps K H (L ++ (lt ++ R)) m ds' vs' l'' →
        SR K σ (upd H a (.lst vs')) (δ.set j (some (m + 2, .lst (ds0.set c (.lst ds'))))) ((a :: l'') ++ L2) R := by
  obtain ⟨v, l, L1, h1, h2, h3, h4⟩ := s.get e
  obtain ⟨v', l1, l2, g1, g2, g3, g4⟩ := h3.pathL ea
  simp only [Rp] at g3
  obtain ⟨a, vs, l', rfl, hA, rfl, hr⟩ := g3
  have pL : L.Perm ((a :: l') ++ (l2 ++ L1)) := h2.trans (by rw [← List.append_assoc]; exact List.Perm.append_right L1 g2)
  refine ⟨v, a, vs, l', l2 ++ L1, h1, g1, hA, pL, hr, fun ds' vs' l'' rest hp hr' => ?_⟩
  -- apart
  have nd : ((a :: l') ++ (l2 ++ L1) ++ (lt ++ R)).Nodup := (List.Perm.append_right (lt ++ R) pL).nodup_iff.mp s.nd
  have aN : a ∈ L ++ (lt ++ R) := List.mem_append_left _ (pL.mem_iff.mpr (by simp))
  have own_a : IsOwn H a := .inl ⟨_, hA⟩
  have k : Kp H (upd H a (.lst vs')) [a] := ⟨fun b o q n => by rw [upd_ne (by simpa using n)]; exact q, fun b hb => (List.mem_singleton.mp hb) ▸ own_a⟩
  have nda : a ∉ l' ∧ a ∉ l2 ∧ a ∉ L1 ∧ a ∉ lt ∧ a ∉ R := by
    have nd' : (a :: (l' ++ (l2 ++ L1) ++ (lt ++ R))).Nodup := nd
    have := (List.nodup_cons.mp nd').1
    simp only [List.mem_append, not_or] at this
    exact ⟨this.1.1, this.1.2.1, this.1.2.2, this.2.1, this.2.2⟩
  have al'' : a ∉ l'' := fun z => by
    have : a ∈ l' ++ lt := hp.mem_iff.mp (List.mem_append_left _ z)
    exact (List.mem_append.mp this).elim nda.1 nda.2.2.2.1
  have mem_l'' : ∀ b ∈ l'', b ∈ l' ∨ b ∈ lt := fun b hb => List.mem_append.mp (hp.mem_iff.mp (List.mem_append_left _ hb))
  have N2 : ∀ b ∈ ((a :: l'') ++ (l2 ++ L1)) ++ R, b ∈ L ++ (lt ++ R) := fun b hb => by
    rcases List.mem_append.mp hb with hb | hb
    · rcases List.mem_append.mp hb with hb | hb
      · rcases List.mem_cons.mp hb with rfl | hb
        · exact aN
        · rcases mem_l'' b hb with q | q
          · exact List.mem_append_left _ (pL.mem_iff.mpr (by simp [q]))
          · exact List.mem_append_right _ (List.mem_append_left _ q)
      · exact List.mem_append_left _ (pL.mem_iff.mpr (List.mem_append_right _ hb))
    · exact List.mem_append_right _ (List.mem_append_right _ hb)
  have w : Nw H (L ++ (lt ++ R)) (((a :: l'') ++ (l2 ++ L1)) ++ R) := fun b hb => .inl (N2 b hb)
  have new : Rp K (upd H a (.lst vs')) (((a :: l'') ++ (l2 ++ L1)) ++ R) (m + 1) (.lst ds') (.ref a) (a :: l'') := by
    simp only [Rp]
    exact ⟨a, vs', l'', rfl, upd_same, rfl, hr'.step k (fun b hb => (List.mem_singleton.mp hb) ▸ aN) w fun b hb z => by
      have : b = a := by simpa using z
      subst this; exact al'' hb⟩
  obtain ⟨ln, q1, q2⟩ := g4 _ _ [a] _ _ k (fun b hb => (List.mem_singleton.mp hb) ▸ aN) w (fun b hb z => by
    have : b = a := by simpa using z
    subst this; exact nda.2.1 hb) new
  -- the sets
  have pAll : (L1 ++ (ln ++ R)).Perm ((a :: l'') ++ (l2 ++ L1) ++ R) := by
    have : (L1 ++ ln).Perm ((a :: l'') ++ (l2 ++ L1)) := (List.Perm.append_left L1 q1).trans (by
      refine List.perm_append_comm.trans ?_
      rw [List.append_assoc])
    rw [← List.append_assoc]
    exact List.Perm.append_right R this
  have ndN : ((a :: l'') ++ (l2 ++ L1) ++ R).Nodup := by
    have b1 : ((a :: (l'' ++ rest)) ++ (l2 ++ L1) ++ R).Nodup := by
      have : ((a :: (l'' ++ rest)) ++ (l2 ++ L1) ++ R).Perm ((a :: l') ++ (l2 ++ L1) ++ (lt ++ R)) := by
        show (a :: (l'' ++ rest ++ (l2 ++ L1) ++ R)).Perm (a :: (l' ++ (l2 ++ L1) ++ (lt ++ R)))
        refine List.Perm.cons a ?_
        refine (List.Perm.append_right R (List.Perm.append_right (l2 ++ L1) hp)).trans ?_
        simp only [List.append_assoc]
        refine List.Perm.append_left l' ?_
        rw [← List.append_assoc, ← List.append_assoc, ← List.append_assoc l2 L1 (lt ++ R), ← List.append_assoc (l2 ++ L1) lt R]
        refine List.Perm.append_right R ?_
        rw [List.append_assoc]
        exact List.perm_append_comm
      exact this.nodup_iff.mpr nd
    refine b1.sublist (List.Sublist.append (List.Sublist.append (List.Sublist.cons_cons a (List.sublist_append_left _ _)) (List.Sublist.refl _)) (List.Sublist.refl _))
  have io : ∀ {b}, IsOwn H b → IsOwn (upd H a (.lst vs')) b := fun {b} q => by
    by_cases z : b = a
    · subst z; exact .inl ⟨_, upd_same⟩
    · rcases q with ⟨x, q⟩ | ⟨x, q⟩
      · exact .inl ⟨x, by rw [upd_ne z]; exact q⟩
      · exact .inr ⟨x, by rw [upd_ne z]; exact q⟩
  have ownAll : ∀ b ∈ L ++ (lt ++ R), IsOwn H b := fun b hb => (List.mem_append.mp hb).elim (s.own b) (s.tr b)
  have hrest : SR K σ (upd H a (.lst vs')) (δ.set j none) L1 (ln ++ R) := by
    refine h4.step k (fun b hb => ?_) (pAll.nodup_iff.mpr ndN) (fun b hb => .inl ?_) fun b hb => io (ownAll b ?_)
    · have : b = a := by simpa using hb
      subst this
      exact List.mem_append_left _ (g2.mem_iff.mpr (by simp))
    · have : b ∈ L ++ (lt ++ R) := N2 b (pAll.mem_iff.mp (List.mem_append_right _ hb))
      rcases List.mem_append.mp this with q | q
      · rcases List.mem_append.mp (h2.mem_iff.mp q) with q | q
        · exact List.mem_append_left _ q
        · -- b in L1: it can't be, apart
          exfalso
          have nd2 := pAll.nodup_iff.mpr ndN
          exact (List.nodup_append.mp nd2).2.2 b q b hb rfl
      · exact List.mem_append_right _ q
    · exact N2 b (pAll.mem_iff.mp (List.mem_append_right _ hb))
  have fin := hrest.put (i := j) (m := m + 2) (d := .lst (ds0.set c (.lst ds'))) (v := v) (by
    have : j < δ.length := (List.getElem?_eq_some_iff.mp e).1
    simp [this]) (q2.sub fun b hb => pAll.mem_iff.mp hb)
  rw [List.set_set, set_same h1] at fin
  refine fin.perm ?_ (List.Perm.refl _)
  exact (List.Perm.append_right L1 q1).trans (by rw [List.append_assoc])
end
def sApL (j c : Nat) (f : EV) : SV := fun δ => match δ[j]? with
  | some (some (k + 2, .lst ds)) => (match ds[c]? with
    | some (.lst es) => (match f (δ.set j none) with
      | .ok m d δ1 => (match δ1[j]? with
        | some none => if es.length < sizeLine ∧ joinM k m d = true then .nx (δ1.set j (some (k + 2, .lst (ds.set c (.lst (es ++ [d])))))) else .bad
        | _ => .bad)
      | _ => .bad)
    | _ => .bad)
  | _ => .bad
def sAppL (j i : Nat) (g : Nat → Nat) (f : EV) : SV := fun δ => match δ[i]? with
  | some (some (_, .int n)) => if 0 ≤ n then sApL j (g n.toNat) f δ else .bad
  | _ => .bad
section
variable {X : Cx} {W : WX} {F : List Nat} {e o y z : Expr} {fe : EV} {i j c : Nat} {g : Nat → Nat} {pp pos apos cpos : Pos}
structure IxV (X : Cx) (y : Expr) (i : Nat) (g : Nat → Nat) : Prop where
  ex : ∃ t, PE X y t ∧ ∀ σ H (n : Nat) (Q : VK), σ[i]? = some (some (.int (n : Int))) → Q (.int ((g n : Nat) : Int)) H → t σ H Q
theorem ixv (hi : PE X y (tVar i)) : IxV X y i fun n => n := ⟨_, hi, fun σ H n Q hn q => ⟨_, hn, q⟩⟩
theorem ixm {k : Nat} (hi : PE X y (tVar i)) (hz : PE X z (tC (.int ((k + 1 : Nat) : Int)))) : IxV X (.BinOp y .Mod z pos) i fun n => n % (k + 1) :=
  ⟨_, pe_op op_modN hi hz, fun σ H n Q hn q => ⟨_, hn, (n : Int), ((k + 1 : Nat) : Int), rfl, rfl, by omega, by
    show Q (.int ((n : Int).fmod ((k + 1 : Nat) : Int))) H
    rw [show ((n : Int).fmod ((k + 1 : Nat) : Int)) = ((n % (k + 1) : Nat) : Int) by rw [Int.fmod_eq_emod_of_nonneg _ (by omega)]; omega]
    exact q⟩⟩
structure DPl (X : Cx) (o : Expr) (j i : Nat) (g : Nat → Nat) : Prop where
  ex : ∃ t, PE X o t ∧ ∀ σ H v w (n : Nat) (Q : VK), σ[j]? = some (some v) → σ[i]? = some (some (.int (n : Int))) → PathL H v (g n) w → Q w H → t σ H Q
theorem dpl (h : PE X o (tVar j)) (hi : IxV X y i g) (hs : PlainIx y) : DPl X (.Subscript o y pos) j i g := by
  obtain ⟨t, pt, qt⟩ := hi.ex
  refine ⟨_, pe_ix ix_list h pt hs, fun σ H v w n Q hv hn hp q => ?_⟩
  obtain ⟨b, us, rfl, h1, h2⟩ := hp
  exact ⟨_, hv, qt σ H n _ hn ⟨b, us, ((g n : Nat) : Int), w, rfl, rfl, SqL.of h1, atI_nat' h2, q⟩⟩
theorem app_coreL {W : WX} {to te : TE} {σ : L2.St} {H : Hp} {δ : DL.Env} {L R : As} {D : Ends} (qo : ∀ v w (Q : VK), σ[j]? = some (some v) → PathL H v c w → Q w H → to σ H Q)
    (qe : ∀ σ H δ L R Q, SR X.K σ H δ L R → EOk X W σ H L R Q (fe δ) → te σ H Q) (s : SR X.K σ H δ L R) (ok : SOk X W F σ H L R D (sApL j c fe δ)) : tDrop (tBM X.K "list" rAppend to (tCons te tNil)) D σ H := by
  unfold sApL at ok
  split at ok
  · rename_i m0 ds0 hd0
    split at ok
    · rename_i es0 he0
      obtain ⟨v, a, vs0, _, _, g1, g2, g3, _⟩ := SR.mutL (lt := []) s hd0 he0
      refine qo v (.ref a) _ g1 g2 ⟨.inl ⟨rfl, vs0, SqL.of g3⟩, ?_⟩
      obtain ⟨v', l, L2, h1, h2, h3, h4⟩ := s.get hd0
      cases g1.symm.trans h1
      refine qe σ H (δ.set j none) L2 (l ++ R) _ h4 ?_
      cases hf : fe (δ.set j none) with
      | bad => rw [hf] at ok; exact ok
      | exc x δ' => rw [hf] at ok; exact ok.elim
      | ok m d δ1 =>
        rw [hf] at ok
        simp only at ok
        intro u H1 lu L1 k w s1 rp
        split at ok
        · rename_i hj1
          split at ok
          · rename_i hc
            have nd0 : (L2 ++ (l ++ R)).Nodup := h4.nd
            have nd1 : (L1 ++ (lu ++ (l ++ R))).Nodup := s1.nd
            have apart : ∀ b ∈ l, b ∉ L2 := fun b hb hb2 => (List.nodup_append.mp nd0).2.2 b hb2 b (List.mem_append_left _ hb) rfl
            have memL : ∀ b, b ∈ L ↔ b ∈ l ∨ b ∈ L2 := fun b => by rw [h2.mem_iff, List.mem_append]
            have rp0 : Rp X.K H1 (L1 ++ (l ++ (lu ++ R))) (m0 + 2) (.lst ds0) v l := by
              refine h3.step k (fun b hb => List.mem_append_left _ ((memL b).mpr (.inr hb))) (fun b hb => ?_) apart
              rcases List.mem_append.mp hb with hb | hb
              · rcases w b (List.mem_append_right _ hb) with q | q
                · exact .inl (List.mem_append_left _ ((memL b).mpr (.inr q)))
                · exact .inr q
              · rcases List.mem_append.mp hb with hb | hb
                · exact .inl (List.mem_append_left _ ((memL b).mpr (.inl hb)))
                · rcases List.mem_append.mp hb with hb | hb
                  · rcases w b (List.mem_append_left _ hb) with q | q
                    · exact .inl (List.mem_append_left _ ((memL b).mpr (.inr q)))
                    · exact .inr q
                  · exact .inl (List.mem_append_right _ hb)
            have s1' : SR X.K σ H1 δ1 L1 (l ++ (lu ++ R)) := s1.perm (List.Perm.refl _) (by
              rw [← List.append_assoc, ← List.append_assoc]
              exact List.Perm.append_right R List.perm_append_comm)
            have s2 := s1'.put hj1 rp0
            rw [set_same h1] at s2
            have hz : ∀ x ∈ lu, x ∉ (l ++ L1) ++ R := fun x hx z => by
              rcases List.mem_append.mp z with z | z
              · rcases List.mem_append.mp z with z | z
                · have nd2 := (List.nodup_append.mp nd1).2.1
                  exact (List.nodup_append.mp nd2).2.2 x hx x (List.mem_append_left _ z) rfl
                · exact (List.nodup_append.mp nd1).2.2 x z x (List.mem_append_left _ hx) rfl
              · have nd2 := (List.nodup_append.mp nd1).2.1
                exact (List.nodup_append.mp nd2).2.2 x hx x (List.mem_append_right _ z) rfl
            obtain ⟨l1, hl1, r1⟩ := join_of (B := (l ++ L1) ++ R) rp hc.2 hz (fun x => by simp only [List.mem_append, or_assoc, or_comm, or_left_comm])
            have sub1 : l1.Sublist lu := by rcases hl1 with rfl | rfl; exact List.nil_sublist _; exact List.Sublist.refl _
            have s3 : SR X.K σ H1 (δ1.set j (some (m0 + 2, .lst ds0))) (l ++ L1) (l1 ++ R) := s2.less (List.Sublist.append sub1 (List.Sublist.refl _))
            have hj2 : (δ1.set j (some (m0 + 2, DL.D.lst ds0)))[j]? = some (some (m0 + 2, .lst ds0)) := by
              have : j < δ1.length := (List.getElem?_eq_some_iff.mp hj1).1
              simp [this]
            obtain ⟨v', a', vs, l', L3, f1, f2, f3, f4, f5, f6⟩ := SR.mutL s3 hj2 he0
            cases g1.symm.trans f1
            have haa : (V.ref a : V) = .ref a' := by
              obtain ⟨b, us, rfl, p1, p2⟩ := g2
              obtain ⟨b', us', e', q1, q2⟩ := f2
              cases e'
              have hb : b ∈ l := by
                simp only [Rp] at h3
                obtain ⟨b2, _, _, e2, _, rfl, _⟩ := h3
                cases e2
                exact List.mem_cons_self
              have := k.kp _ _ p1 (apart b hb)
              rw [q1] at this
              cases this
              exact Option.some.inj (p2.symm.trans q2)
            cases haa
            refine ⟨a, vs, u, rfl, rfl, f3, by rw [← f5.len]; exact hc.1, ?_⟩
            have r2 : Rps X.K H1 ((l ++ L1) ++ (l1 ++ R)) m0 [d] [u] l1 := by
              simp only [Rps]
              exact ⟨u, [], l1, [], rfl, by simp, r1.sub fun x hx => by simpa only [List.mem_append, or_assoc, or_comm, or_left_comm] using hx, rfl, rfl⟩
            have s4 := f6 (es0 ++ [d]) (vs ++ [u]) (l' ++ l1) [] (by simp) (f5.app r2)
            rw [List.set_set] at s4
            have al : a ∈ l ++ L1 := f4.mem_iff.mpr (by simp)
            have k' : Kp H H1 L := ⟨fun b o e n => k.kp b o e fun z => n ((memL b).mpr (.inr z)), s.own⟩
            have w' : Nw H L (l ++ L1) := fun x hx => by
              rcases List.mem_append.mp hx with hx | hx
              · exact .inl ((memL x).mpr (.inl hx))
              · rcases w x (List.mem_append_right _ hx) with q | q
                · exact .inl ((memL x).mpr (.inr q))
                · exact .inr q
            have wl : ∀ x ∈ lu, x ∈ L ∨ H x = none := fun x hx => by
              rcases w x (List.mem_append_left _ hx) with q | q
              · exact .inl ((memL x).mpr (.inr q))
              · exact .inr q
            refine ok σ _ _ (kp_mut k' w' al) (fun x hx => ?_) s4 Fix.refl
            rcases List.mem_append.mp hx with hx | hx
            · rcases List.mem_cons.mp hx with rfl | hx
              · exact w' _ al
              · rcases List.mem_append.mp hx with hx | hx
                · exact w' x (f4.mem_iff.mpr (by simp [hx]))
                · exact wl x (sub1.subset hx)
            · exact w' x (f4.mem_iff.mpr (List.mem_append_right _ hx))
          · exact ok.elim
        · exact ok.elim
    · exact ok.elim
  · exact ok.elim
theorem ds_appendL (mk : ∀ to te, PE X o to → PE X e te → PS X (.Expr (.Call (.Attribute o "append" apos) [e] [] cpos) pos) (tDrop (tBM X.K "list" rAppend to (tCons te tNil)))) (ho : DPl X o j i g) (he : DE X W e fe) :
    DS X W F (.Expr (.Call (.Attribute o "append" apos) [e] [] cpos) pos) (sAppL j i g fe) := by
  obtain ⟨to, po, qo⟩ := ho.ex
  obtain ⟨te, pe, qe⟩ := he.ex
  refine ⟨_, mk to te po pe, fun σ H δ L R D s ok => ?_⟩
  unfold sAppL at ok
  split at ok
  · rename_i m n hn
    split at ok
    · rename_i h0
      obtain ⟨v, l, L2, g1, _, g3, _⟩ := s.get hn
      have hv : v = .int n ∧ l = [] := by simpa only [Rp] using g3
      obtain ⟨rfl, _⟩ := hv
      refine app_coreL (fun v w Q hv hp q => qo σ H v w n.toNat Q hv ?_ hp q) qe s ok
      rw [Int.toNat_of_nonneg h0]
      exact g1
    · exact ok.elim
  · exact ok.elim
theorem d_appendL (ho : DPl X o j i g) (he : DE X W e fe) (hbase : attributeBase o "append" X.env (eval o X.env) = eval o X.env := by rfl)
    (hfew : ((backTo cpos (starEach (e :: []) X.env)).all (fun x => !x.1) && (backToKw cpos (keywordEach [] X.env)).all (fun x => x.1.isSome)
      && decide ((e :: ([] : List Expr)).length + ([] : List Keyword).length + (if ([] : List Keyword).isEmpty then 0 else 1) < 30)) = true := by rfl)
    (hline : (apos.endLine == cpos.line) = true := by rfl) (hs : starEach (e :: []) X.env = (false, eval e X.env) :: starEach [] X.env := by rfl) (hplain : (backTo cpos (starEach [] X.env)).any (·.1) = false := by rfl)
    (hsw : swapsWith (.Call (.Attribute o "append" apos) [e] [] cpos) none pos.line X.env = pure false := by rfl) :
    DS X W F (.Expr (.Call (.Attribute o "append" apos) [e] [] cpos) pos) (sAppL j i g fe) :=
  ds_appendL (fun to te ho he => ps_expr (pe_bm PySem.F.plainAttrs_list PySem.F.slot_list_append PySem.F.type_list_append mt_append ho (pa_cons he pa_nil hs) (hbase := hbase) (hfew := hfew) (hline := hline) (hs := hs) (hplain := hplain)) hsw) ho he
def apL0 (o : Option (Nat × D)) (j : Nat) (g : Nat → Nat) (f : EV) (δ : DL.Env) : SRes := match o with
  | some (_, .int n) => if 0 ≤ n then sApL j (g n.toNat) f δ else .bad
  | _ => .bad
theorem sAppL_k {f : EV} {δ : DL.Env} : sAppL j i g f δ = apL0 (look δ i) j g f δ := by
  unfold sAppL apL0
  rw [look_eq]
  rcases h : δ[i]? with _ | (_ | ⟨m, d⟩) <;> try rfl
  cases d <;> rfl
theorem apL0_k {f : EV} {δ : DL.Env} {m n : Nat} : apL0 (some (m, .int (n : Int))) j g f δ = sApL j (g n) f δ := by
  show (if 0 ≤ (n : Int) then sApL j (g (n : Int).toNat) f δ else .bad) = _
  rw [if_pos (by omega)]
  rfl
theorem sApL_k {f : EV} {δ δ1 : DL.Env} {k m : Nat} {ds es : List D} {d : D} (h : δ[j]? = some (some (k + 2, .lst ds))) (h1 : ds[c]? = some (.lst es)) (h2 : f (δ.set j none) = .ok m d δ1) (h3 : δ1[j]? = some none) (h4 : es.length < sizeLine) (h5 : joinM k m d = true) :
    sApL j c f δ = .nx (δ1.set j (some (k + 2, .lst (ds.set c (.lst (es ++ [d])))))) := by
  unfold sApL
  simp only [h, h1, h2, h3]
  rw [if_pos ⟨h4, h5⟩]
end
end DL
namespace PySem
open Sem (wp)
theorem amax4 (p q r z : Value) : argsOk "max" ⟨[p, q, r, z], []⟩ := by
  unfold argsOk
  kernel_rfl
section
variable {prog : Program} {w : World} {A : Around} {E Q : Value → Shared → Prop} {s : Shared}
theorem run4 {p q r z : Value}
    (go : wpAny (model prog w) A.in1 (pyIter (.ref s.heap.objs.size)) (fun it s1 => ∃ J fp wr n P St bt, it = .ref J ∧ Walks prog w A.in1 J fp wr n P St ∧ St 0 s1.heap ∧ (∀ y ∈ fp, y < s1.heap.objs.size) ∧ 0 < n ∧ CmpOf prog w A.in1 .Gt P bt ∧
      ∀ v g tk, P (argBest bt (n - 1)) v → (∀ y o, y ∉ wr → s1.heap.get? y = some o → g.get? y = some o) → Q v { s1 with heap := g, toks := tk }) E
      { s with heap := s.heap.push { cls := .type "tuple", data := .seq #[p, q, r, z] } }) :
    wpAny (model prog w) A (call (.builtin "max") [p, q, r, z]) Q E s := by
  have nm : (toString "max" ++ toString ".loop" : String) = "max.loop" := by decide
  refine call_function_tree F.kind_max F.plain_max F.entry_max (amax4 p q r z) (?_ : _)
  show wpAny _ A.in1 (Builtin.Builtins.bindParams "max" ["key", "default"] 0 ⟨[], []⟩ >>= _) _ E s
  refine wpAny_bind (wpAny_of_eq (show Builtin.Builtins.bindParams "max" ["key", "default"] 0 ⟨[], []⟩ = pure [none, none] from rfl) (?_ : _))
  show wpAny _ A.in1 (newTuple [p, q, r, z] >>= _) _ E s
  refine wpAny_bind (wpAny_newObj_type (?_ : _))
  refine wpAny_bind (wpAny_mono go (fun it s1 got => ?_) fun _ _ e => e)
  rcases got with ⟨J, fp, wr, n, P, St, bt, rfl, W, st0, fpl, npos, cmp, done⟩
  refine wpAny_bind (wpAny_newObj_type (?_ : _))
  rw [nm]
  exact wpAny_pure ⟨plainId_quiet F.plain_max_loop _, codeAny_max_loop_first W bt cmp s1.heap.objs.size (fun m => Nat.lt_irrefl _ (fpl _ m)) npos (W.frame _ _ _ st0 fun y _ o e => Heap.get?_push_of_some _ e) (Heap.get?_push_size _ rfl) fun v g tk hP hk =>
    done v g tk hP fun y o hy e => hk y o hy (Nat.ne_of_lt (Heap.lt_size e)) (Heap.get?_push_of_some _ e)⟩
theorem max4i {p q r z : Int} {tp tq tr tz : Tok} (hh : A.handled = none)
    (hq : ∀ g tk M u, (∀ y o, s.heap.get? y = some o → g.get? y = some o) → M ∈ [p, q, r, z] → (∀ x ∈ [p, q, r, z], x ≤ M) → Q (.int M u) { s with heap := g, toks := tk }) :
    wpAny (model prog w) A (call (.builtin "max") [.int p tp, .int q tq, .int r tr, .int z tz]) Q E s := by
  have tup : (s.heap.push { cls := .type "tuple", data := .seq #[.int p tp, .int q tq, .int r tr, .int z tz] }).IsTuple s.heap.objs.size (intItems #[(p, tp), (q, tq), (r, tr), (z, tz)]) :=
    ⟨_, Heap.get?_push_size _ rfl, rfl, 0, by simp [intItems]⟩
  have sz : (s.heap.push { cls := .type "tuple", data := .seq #[.int p tp, .int q tq, .int r tr, .int z tz] }).objs.size = s.heap.objs.size + 1 := Heap.size_push ..
  refine run4 (wpAny_pyIter_tuple tup (?_ : _))
  refine ⟨_, [_, s.heap.objs.size], [_], _, _, _, _, rfl, Walks.tuple (A := A.in1) hh _ s.heap.objs.size (by rw [sz]; exact Nat.ne_of_lt (Nat.lt_succ_self _)) (intItems #[(p, tp), (q, tq), (r, tr), (z, tz)]),
    ⟨⟨_, Heap.get?_push_size _ rfl, rfl, rfl⟩, tup.push _⟩, fun y hy => ?_, by simp [intItems], CmpOf.ints_gt (numAt #[(p, tp), (q, tq), (r, tr), (z, tz)]) (fun _ _ => intItems_at), fun v g tk hP hk => ?_⟩
  · show y < ((s.heap.push _).push _).objs.size
    rw [Heap.size_push, sz]
    rcases List.mem_cons.mp hy with e | m
    · rw [e, sz]; exact Nat.lt_succ_self _
    · rw [List.mem_singleton.mp m]; exact Nat.lt_succ_of_lt (Nat.lt_succ_self _)
  · have old : ∀ y o, s.heap.get? y = some o → g.get? y = some o := fun y o e => by
      refine hk y o (fun m => ?_) (Heap.get?_push_of_some _ (Heap.get?_push_of_some _ e))
      have lo := Heap.lt_size e
      rw [List.mem_singleton.mp m, sz] at lo
      exact Nat.lt_irrefl _ (Nat.lt_of_succ_lt lo)
    rcases intItems_at hP with ⟨u, rfl⟩
    rcases argBest_gt (numAt #[(p, tp), (q, tq), (r, tr), (z, tz)]) ((intItems #[(p, tp), (q, tq), (r, tr), (z, tz)]).size - 1) with ⟨b1, b2⟩
    have s3 : (intItems #[(p, tp), (q, tq), (r, tr), (z, tz)]).size - 1 = 3 := by simp [intItems]
    rw [s3] at b1 b2 ⊢
    have at4 : ∀ i, i ≤ 3 → numAt #[(p, tp), (q, tq), (r, tr), (z, tz)] i ∈ [p, q, r, z] := fun i hi => by
      rcases (show i = 0 ∨ i = 1 ∨ i = 2 ∨ i = 3 by omega) with rfl | rfl | rfl | rfl <;> simp [numAt]
    refine hq g tk _ u old (at4 _ b1) fun x hx => ?_
    simp only [List.mem_cons, List.not_mem_nil, or_false] at hx
    rcases hx with rfl | rfl | rfl | rfl
    · exact b2 0 (by decide)
    · exact b2 1 (by decide)
    · exact b2 2 (by decide)
    · exact b2 3 (by decide)
end
end PySem
namespace DL
open PySem PySem.Spec L2
open PyProof.Rows hiding St
def rM4 : List V → Hp → VK → Prop := fun vs H Q => ∃ p q r z : Int, vs = [.int p, .int q, .int r, .int z] ∧ ∀ M, M ∈ [p, q, r, z] → (∀ x ∈ [p, q, r, z], x ≤ M) → Q (.int M) H
theorem cr_max4 {X : Cx} (hc : X.calm = true) : CallR X (.builtin "max") rM4 := by
  intro pins s σ H vs us Q I rv h
  obtain ⟨p, q, r, z, rfl, hq⟩ := h
  cases rv with
  | cons r1 rv =>
    cases rv with
    | cons r2 rv =>
      obtain ⟨u3, u4, rfl, r3, r4⟩ := vals2 rv
      obtain ⟨t1, rfl⟩ := r1
      obtain ⟨t2, rfl⟩ := r2
      obtain ⟨t3, rfl⟩ := r3
      obtain ⟨t4, rfl⟩ := r4
      exact max4i (I.ok.hd hc) fun g tk M u k h1 h2 => ⟨.int M, H, I.kept k, ⟨_, rfl⟩, hq M h1 h2⟩
def gMax4 : List D → Option (Nat × D)
  | [.int p, .int q, .int r, .int z] => some (0, .int (maxI p [q, r, z]))
  | _ => none
theorem opf_max4 {K : PySem.W.Frag} : OpFN K rM4 gMax4 := by
  intro H B ds vs Q h ok
  unfold gMax4 at ok
  split at ok
  · rename_i p q r z
    obtain ⟨e1, e2⟩ := Rps.ints (ns := [p, q, r, z]) h rfl
    subst e1
    obtain ⟨s1, s2⟩ := maxI_spec p [q, r, z]
    refine ⟨p, q, r, z, rfl, fun M h1 h2 => ?_⟩
    have : M = maxI p [q, r, z] := Int.le_antisymm (s2 M h1) (h2 _ s1)
    rw [this]
    exact ok.int
  · exact ok.elim
section
variable {X : Cx} {W : WX} {e : Expr} {es : List Expr} {fs : DL.Env → ARes} {pp pos : Pos}
theorem d_max4 (hc : X.calm = true) (hm : X.mg "max" = none) (hg : Gl X "max") (h : DA X W (e :: es) fs) (he : starEach (e :: es) X.env = (false, eval e X.env) :: starEach es X.env := by rfl) (hpl : (backTo pos (starEach es X.env)).any (·.1) = false := by rfl) : DE X W (.Call (.Name "max" pp) (e :: es) [] pos) (eN gMax4 fs) :=
  de_n (fun t ha => pe_callB (cr_max4 hc) hg hm (by decide +kernel) ha (he := he) (hpl := hpl)) opf_max4 h
end
theorem gMax4_k (p q r z : Int) : ∃ M, gMax4 [.int p, .int q, .int r, .int z] = some (0, .int M) ∧ p ≤ M ∧ q ≤ M ∧ r ≤ M ∧ z ≤ M := by
  obtain ⟨_, s2⟩ := maxI_spec p [q, r, z]
  exact ⟨_, rfl, s2 p (by simp), s2 q (by simp), s2 r (by simp), s2 z (by simp)⟩
end DL
namespace DL
open PySem PySem.Spec L2
open PyProof.Rows hiding St
theorem itok_rangeC {K : PySem.W.Frag} {lo c : Int} {n : Nat} : ItOk K (Itc lo c n) ((List.range n).map fun (i : Nat) => D.int (lo + (i : Int) * c)) (fun _ _ => True) where
  step := fun _ _ _ _ _ _ _ _ _ => trivial
  go := fun H N i d _ hd => by
    rw [List.getElem?_map] at hd
    have hi : i < n := by
      cases h : (List.range n)[i]? with
      | none => rw [h] at hd; cases hd
      | some j => exact by simpa using (List.getElem?_eq_some_iff.mp h).1
    rw [List.getElem?_range hi] at hd
    have hd : D.int (lo + i * c) = d := by simpa using hd
    subst hd
    refine ⟨hi, fun x H' y => ?_⟩
    obtain ⟨rfl, rfl⟩ := y
    exact ⟨fun _ _ e => e, by simp [Rp]⟩
  stop := fun H N i _ hi => by show n ≤ i; simpa using hi
def rangeS (lo c : Int) (n : Nat) : List D := (List.range n).map fun (i : Nat) => D.int (lo + (i : Int) * c)
def stepN (i j c : Int) : Nat := if i < j then ((j - i - 1) / c + 1).toNat else 0
def ARes.kr3 (r : ARes) : IRes := match r with
  | .ok [(_, .int i), (_, .int j), (_, .int c)] δ' => if inW i && inW j && (decide (0 < c) && decide (c < 1073741824)) then .ok (rangeS i c (stepN i j c)) δ' else .bad
  | .exc x δ' => .exc x δ'
  | _ => .bad
def iR3 (fs : DL.Env → ARes) : DL.Env → IRes := fun δ => (fs δ).kr3
theorem rgC_up {i j c : Int} (h1 : -(2 ^ 62) ≤ i ∧ i < 2 ^ 62) (h2 : -(2 ^ 62) ≤ j ∧ j < 2 ^ 62) (h3 : 0 < c) (h4 : c < 1073741824) : RgC i j c (stepN i j c) := by
  have hs : Builtin.Range.rangeSize i j c = (stepN i j c : Int) := by
    unfold Builtin.Range.rangeSize stepN
    rw [if_pos (show c > 0 from h3)]
    by_cases z : i < j
    · rw [if_pos z, if_pos z]
      have : 0 ≤ (j - i - 1) / c := Int.ediv_nonneg (by omega) (by omega)
      omega
    · rw [if_neg z, if_neg z]
      rfl
  refine ⟨by omega, by omega, ?_, hs⟩
  have hb : (stepN i j c : Int) ≤ 2 ^ 63 - 1 := by
    unfold stepN
    by_cases z : i < j
    · rw [if_pos z]
      have h5 : 0 ≤ (j - i - 1) / c := Int.ediv_nonneg (by omega) (by omega)
      have h6 : (j - i - 1) / c ≤ j - i - 1 := Int.ediv_le_self _ (by omega)
      omega
    · rw [if_neg z]
      decide
  have hb0 : (0 : Int) ≤ (stepN i j c : Int) := by omega
  unfold Builtin.Range.small
  rw [hs]
  generalize (stepN i j c : Int) = y at *
  simp only [Builtin.Range.rangeFitsLong, Bool.and_eq_true, Bool.or_eq_true, decide_eq_true_eq, beq_iff_eq, if_pos (show c > 0 from h3)]
  refine ⟨⟨⟨⟨?_, ?_⟩, ⟨?_, ?_⟩⟩, ⟨?_, ?_⟩⟩, .inr ⟨?_, ?_⟩⟩ <;> omega
section
variable {X : Cx} {W : WX} {tg a b c : Expr} {p pos : Pos} {fs : DL.Env → ARes}
theorem di_range3 {es : List Expr} {e : Expr} (mk : ∀ t, PA X es t → PI X tg e (iRng3 t)) (h : DA X W es fs) : DI X W tg e (iR3 fs) := by
  obtain ⟨t, p, q⟩ := h.ex
  refine ⟨_, mk t p, fun σ H δ L R Q s ok => q σ H δ L R _ s ?_⟩
  unfold iR3 ARes.kr3 at ok
  split at ok
  · rename_i m i n j m' c δ1 hf
    split at ok
    · rename_i hj
      simp only [Bool.and_eq_true, decide_eq_true_eq] at hj
      rw [hf]
      intro vs H1 l L1 k w s1 rp
      obtain ⟨v, vr, l1, l2, rfl, rfl, r1, u, ur, k1, k2, rfl, rfl, r2, x, xr, k3, k4, rfl, rfl, r3, rfl, rfl⟩ := rp
      have z1 := inW_of hj.1.1
      have z2 := inW_of hj.1.2
      have : v = .int i := by simp only [Rp] at r1; exact r1.1
      subst this
      have : u = .int j := by simp only [Rp] at r2; exact r2.1
      subst this
      have : x = .int c := by simp only [Rp] at r3; exact r3.1
      subst this
      exact ⟨i, j, c, _, rfl, rgC_up z1 z2 hj.2.1 hj.2.2, ok _ H1 L1 _ k w.right (s1.less (List.sublist_append_right _ _)) itok_rangeC trivial⟩
    · exact ok.elim
  · rename_i x δ1 hf
    rw [hf]; exact ok
  · exact ok.elim
theorem d_range3 (hm : X.mg "range" = none) (hg : Gl X "range") (h : DA X W [a, b, c] fs) (hs : starEach [a, b, c] X.env = (false, eval a X.env) :: starEach [b, c] X.env := by rfl) (hpl : (backTo pos (starEach [b, c] X.env)).any (·.1) = false := by rfl) : DI X W tg (.Call (.Name "range" p) [a, b, c] [] pos) (iR3 fs) :=
  di_range3 (fun t ha => pi_range3 hg hm ha hs hpl) h
theorem iR3_k {δ : DL.Env} : iR3 fs δ = (fs δ).kr3 := Eq.trans rfl rfl
theorem kr3_b {m n o : Nat} {i j c : Int} {δ : DL.Env} (h : -(2 ^ 62) ≤ i ∧ i < 2 ^ 62) (h' : -(2 ^ 62) ≤ j ∧ j < 2 ^ 62) (hc : 0 < c ∧ c < 1073741824) : (ARes.ok [(m, .int i), (n, .int j), (o, .int c)] δ).kr3 = .ok (rangeS i c (stepN i j c)) δ := if_pos (by
  rw [inW_i h.1 h.2, inW_i h'.1 h'.2, decide_eq_true hc.1, decide_eq_true hc.2]; rfl)
theorem kr3_exc {x : XD} {δ : DL.Env} : (ARes.exc x δ).kr3 = .exc x δ := Eq.trans rfl rfl
end
end DL
namespace DL
open PySem PySem.Spec L2
open PyProof.Rows hiding St
def rInD (K : PySem.W.Frag) (neg : Bool) : R2 := fun x y H Q => ∃ (d : PyData) (xs : List PyData), Dp K H x d ∧ Dp K H y (.list xs) ∧ SeqAt.shaped d = true ∧ SeqAt.shaped (.list xs) = true ∧ Q (.bl (neg ^^ xs.any fun y => PyData.eqv y d)) H
theorem shp {d : PyData} (h : SeqAt.shaped d = true) : d.depth ≤ 64 := by
  unfold SeqAt.shaped at h
  rw [Bool.and_eq_true, decide_eq_true_eq] at h
  exact h.2
section
variable {X : Cx}
theorem op_inD (hu : X.A.units + 64 < cLine) : OpR X (compareOp .In) (rInD X.K false) := by
  intro pins s σ H x y v u Q I rx ry h
  obtain ⟨d, xs, hd, he, sd, se, q⟩ := h
  obtain ⟨as, r1⟩ := Dp.reads I d x v hd rx
  obtain ⟨bs, r2⟩ := Dp.reads I (.list xs) y u he ry
  have h1 := SeqAt.canLay_of_shaped se
  have h2 := shp se
  simp only [PyData.depth] at h2
  rw [Bool.false_xor] at q
  exact SeqAt.in_list_reads r2 r1 (by simpa [PyData.canLay0] using h1) (SeqAt.canLay_of_shaped sd) (by have := Nat.min_le_left (PyData.depthAll xs) d.depth; omega) ⟨.bl _, H, I, rfl, q⟩
theorem op_notInD (hu : X.A.units + 64 < cLine) : OpR X (compareOp .NotIn) (rInD X.K true) := by
  intro pins s σ H x y v u Q I rx ry h
  obtain ⟨d, xs, hd, he, sd, se, q⟩ := h
  obtain ⟨as, r1⟩ := Dp.reads I d x v hd rx
  obtain ⟨bs, r2⟩ := Dp.reads I (.list xs) y u he ry
  have h1 := SeqAt.canLay_of_shaped se
  have h2 := shp se
  simp only [PyData.depth] at h2
  rw [Bool.true_xor] at q
  exact SeqAt.notIn_list_reads r2 r1 (by simpa [PyData.canLay0] using h1) (SeqAt.canLay_of_shaped sd) (by have := Nat.min_le_left (PyData.depthAll xs) d.depth; omega) ⟨.bl _, H, I, rfl, q⟩
end
def gInD : D → D → Option (Nat × D)
  | d, .lst ds => if isShaped d && isShaped (.lst ds) then some (0, .bl (false ^^ (D.pys ds).any fun y => PyData.eqv y d.py)) else none
  | _, _ => none
def gNotInD : D → D → Option (Nat × D)
  | d, .lst ds => if isShaped d && isShaped (.lst ds) then some (0, .bl (true ^^ (D.pys ds).any fun y => PyData.eqv y d.py)) else none
  | _, _ => none
section
variable {K : PySem.W.Frag}
theorem opf_inD : OpF2 K (rInD K false) gInD := by
  intro H B d v e u Q h1 h2 ok
  unfold gInD at ok
  split at ok
  · split at ok
    · rename_i ds hc
      simp only [Bool.and_eq_true] at hc
      exact ⟨d.py, D.pys ds, h1.dp (SeqAt.canLay_of_shaped hc.1), h2.dp (SeqAt.canLay_of_shaped hc.2), hc.1, hc.2, ok.bl⟩
    · exact ok.elim
  · exact ok.elim
theorem opf_notInD : OpF2 K (rInD K true) gNotInD := by
  intro H B d v e u Q h1 h2 ok
  unfold gNotInD at ok
  split at ok
  · split at ok
    · rename_i ds hc
      simp only [Bool.and_eq_true] at hc
      exact ⟨d.py, D.pys ds, h1.dp (SeqAt.canLay_of_shaped hc.1), h2.dp (SeqAt.canLay_of_shaped hc.2), hc.1, hc.2, ok.bl⟩
    · exact ok.elim
  · exact ok.elim
end
section
variable {X : Cx} {W : WX} {a b : Expr} {fa fb : EV} {pos : Pos}
theorem d_inD (hu : X.A.units + 64 < cLine) (ha : DE X W a fa) (hb : DE X W b fb) (hm : behindInMarks .In b = false) : DE X W (.Compare a [.In] [b] pos) (e2 gInD fa fb) := de_cmp (op_inD hu) opf_inD ha hb hm
theorem d_notinD (hu : X.A.units + 64 < cLine) (ha : DE X W a fa) (hb : DE X W b fb) (hm : behindInMarks .NotIn b = false) : DE X W (.Compare a [.NotIn] [b] pos) (e2 gNotInD fa fb) := de_cmp (op_notInD hu) opf_notInD ha hb hm
theorem t_inD (hu : X.A.units + 64 < cLine) (ha : DE X W a fa) (hb : DE X W b fb) (hm : behindInMarks .In b = false) : DT X W (.Compare a [.In] [b] pos) (tT (e2 gInD fa fb)) := dt_cmp (op_inD hu) opf_inD ha hb hm
theorem t_notinD (hu : X.A.units + 64 < cLine) (ha : DE X W a fa) (hb : DE X W b fb) (hm : behindInMarks .NotIn b = false) : DT X W (.Compare a [.NotIn] [b] pos) (tT (e2 gNotInD fa fb)) := dt_cmp (op_notInD hu) opf_notInD ha hb hm
end
theorem pys_li (ns : List Int) : D.pys (ns.map .int) = ns.map PyData.int := by
  induction ns with
  | nil => rfl
  | cons n ns ih => rw [List.map_cons, List.map_cons, D.pys, ih]; rfl
theorem eqv_li : ∀ (xs ys : List Int), PyData.eqv (.list (xs.map PyData.int)) (.list (ys.map PyData.int)) = decide (xs = ys)
  | [], [] => rfl
  | [], y :: ys => by simp [PyData.eqv, PyData.eqvAll]
  | x :: xs, [] => by simp [PyData.eqv, PyData.eqvAll]
  | x :: xs, y :: ys => by
    have ih := eqv_li xs ys
    simp only [PyData.eqv] at ih
    simp only [List.map_cons, PyData.eqv, PyData.eqvAll, ih]
    by_cases h : x = y <;> by_cases h2 : xs = ys <;> simp [h, h2]
theorem pys_lls (xss : List (List Int)) : D.pys (xss.map fun xs => .lst (xs.map .int)) = xss.map fun xs => PyData.list (xs.map PyData.int) := by
  induction xss with
  | nil => rfl
  | cons xs xss ih => rw [List.map_cons, List.map_cons, D.pys, ih, D.py, pys_li]
theorem any_li (ys : List Int) (xss : List (List Int)) : ((D.pys (xss.map fun xs => .lst (xs.map .int))).any fun y => PyData.eqv y (D.py (.lst (ys.map .int)))) = decide (ys ∈ xss) := by
  rw [pys_lls, List.any_map, D.py, pys_li]
  induction xss with
  | nil => rfl
  | cons xs xss ih =>
    rw [List.any_cons, ih]
    simp only [Function.comp, eqv_li, List.mem_cons, eq_comm (a := xs)]
    by_cases h : ys = xs <;> by_cases h2 : ys ∈ xss <;> simp [h, h2]
section
variable {P : Program} {w : World} {K : PySem.W.Frag} {mg : Str → Option Value} {base : Heap}
theorem fd_Da {x y qual : Str} {params : Arguments} {st : List Stmt} {scope : Scope} {f : Addr} {fd : FuncData} {N ps : List Str} {k : Nat} {pm : List Nat} {body : SV} (Fn : FunD K x qual params st scope [] [] f fd) (hm : mg y = some (.ref f))
    (hbind : ∀ (kV doc pm : Value) (an : Option Addr) (cdv ct : Value) (us : List Value), us.length = ps.length → bindArgs (PySem.W.fnOf x qual params st scope .none kV doc pm an cdv ct) ⟨us, []⟩ = pure (ps.zip us))
    (S : FnScope N ps scope) (hl : pm.length = ps.length)
    (hbody : ∀ (cdv : Value) (A : Around) (outer : List PySem.Env) (s : Shared) (H : Hp) (E : XK), Room k (A.deeper (envOfC qual scope s.heap.objs.size f cdv)) →
      DSs (cxOf (L2.CX P w) P w K mg base N qual scope f cdv A outer s H E) (WF E) (lentsOf 0 pm) st body) :
    FD P w K mg base (k + 1) y ps pm (runF pm N.length body) :=
  ⟨f, fd, hm, Fn.kp, FunD.bindsN Fn hbind, ok_D Fn S hl hbody⟩
end
end DL
namespace DL
open PySem PySem.Spec L2
open PyProof.Rows hiding St
theorem units1 {n : Nat} (h : n + 64 < cLine) : n + 1 < cLine := by omega
def dKey : D → Option Key
  | .int i => some (.inl i)
  | .str s => some (.inr s)
  | _ => none
def dgetD : List Key → List D → Key → Option D
  | k :: ks, d :: ds, x => if k = x then some d else dgetD ks ds x
  | _, _, _ => none
def putKs (ks : List Key) (x : Key) : List Key := if (ks.any fun k => decide (k = x)) = true then ks else ks ++ [x]
def putV {α : Type} : List Key → List α → Key → α → List α
  | k :: ks, d :: ds, x, e => (if k = x then e else d) :: putV ks ds x e
  | _, _, _, _ => []
def putDs {α : Type} (ks : List Key) (ds : List α) (x : Key) (e : α) : List α := if (ks.any fun k => decide (k = x)) = true then putV ks ds x e else ds ++ [e]
theorem dKey_v {K : PySem.W.Frag} {H : Hp} {N : As} {m : Nat} {d : D} {v : V} {l : As} {k : Key} (h : Rp K H N m d v l) (e : dKey d = some k) : v = kV k ∧ l = [] := by
  cases d <;> simp only [dKey] at e <;> cases e
  all_goals (simp only [Rp] at h; exact h)
theorem dget_v {K : PySem.W.Frag} {H : Hp} {N : As} (x : Key) : ∀ {ks : List Key} {ds : List D} {vs : List V}, Rps K H N 0 ds vs [] → ks.length = vs.length →
    match dgetD ks ds x with
    | some d => ∃ v, valV (ks.zip vs) x = some v ∧ Rp K H N 0 d v []
    | none => valV (ks.zip vs) x = none
  | [], ds, vs, h, hl => by
    cases ds <;> exact valV_nil
  | k :: ks, [], vs, h, hl => by
    simp only [Rps] at h
    rw [h.1] at hl
    cases hl
  | k :: ks, d :: ds, vs, h, hl => by
    simp only [Rps] at h
    obtain ⟨v, vr, l1, l2, rfl, el, r1, r2⟩ := h
    have e1 := r1.zero
    have e2 := r2.zero
    subst e1 e2
    have ih := dget_v x r2 (by simpa using hl)
    rw [List.zip_cons_cons]
    unfold dgetD
    by_cases z : k = x
    · rw [if_pos z]
      exact ⟨v, valV_pos z, r1⟩
    · rw [if_neg z, valV_neg z]
      exact ih
def gInK : D → D → Option (Nat × D)
  | x, .dct ks ds => (match dKey x with
    | some k => some (0, .bl (dgetD ks ds k).isSome)
    | none => none)
  | _, _ => none
def gNotInK : D → D → Option (Nat × D)
  | x, .dct ks ds => (match dKey x with
    | some k => some (0, .bl (!(dgetD ks ds k).isSome))
    | none => none)
  | _, _ => none
def rInK : R2 := fun y x H Q => ∃ a o, x = .ref a ∧ DGet H a y o ∧ Q (.bl o.isSome) H
def rNotInK : R2 := fun y x H Q => ∃ a o, x = .ref a ∧ DGet H a y o ∧ Q (.bl (!o.isSome)) H
theorem dct_isSome {K : PySem.W.Frag} {H : Hp} {N : As} {ks : List Key} {ds : List D} {vs : List V} (r : Rps K H N 0 ds vs []) (hl : ks.length = vs.length) (k : Key) : (valV (ks.zip vs) k).isSome = (dgetD ks ds k).isSome := by
  have h := dget_v k r hl
  cases e : dgetD ks ds k with
  | none => rw [e] at h; rw [h]; rfl
  | some d => rw [e] at h; obtain ⟨v, h, _⟩ := h; rw [h]; rfl
theorem opf_inK {K : PySem.W.Frag} : OpF2 K rInK gInK := by
  intro H B d v e u Q h1 h2 ok
  unfold gInK at ok
  split at ok
  · rename_i ks ds
    split at ok
    · rename_i k hk
      obtain ⟨rfl, _⟩ := dKey_v h1 hk
      simp only [Rp] at h2
      obtain ⟨a, vs, rfl, hl, hz, _, r⟩ := h2
      refine ⟨a, _, rfl, DGet.k hz.1, ?_⟩
      rw [dct_isSome r hl]
      exact ok.bl
    · exact ok.elim
  · exact ok.elim
theorem opf_notInK {K : PySem.W.Frag} : OpF2 K rNotInK gNotInK := by
  intro H B d v e u Q h1 h2 ok
  unfold gNotInK at ok
  split at ok
  · rename_i ks ds
    split at ok
    · rename_i k hk
      obtain ⟨rfl, _⟩ := dKey_v h1 hk
      simp only [Rp] at h2
      obtain ⟨a, vs, rfl, hl, hz, _, r⟩ := h2
      refine ⟨a, _, rfl, DGet.k hz.1, ?_⟩
      rw [dct_isSome r hl]
      exact ok.bl
    · exact ok.elim
  · exact ok.elim
section
variable {X : Cx} {W : WX} {F : List Nat} {a b e o f : Expr} {fa fb fo fe ff : EV} {i j : Nat} {p : List Nat} {pos pos' apos cpos : Pos}
theorem d_inK (hu : X.A.units + 64 < cLine) (ha : DE X W a fa) (hb : DE X W b fb) (hm : behindInMarks .In b = false) : DE X W (.Compare a [.In] [b] pos) (e2 gInK fa fb) :=
  de_2 (fun t u p q => pe_cmp (pc_din (units1 hu) p q) hm) opf_inK ha hb
theorem d_notinK (hu : X.A.units + 64 < cLine) (ha : DE X W a fa) (hb : DE X W b fb) (hm : behindInMarks .NotIn b = false) : DE X W (.Compare a [.NotIn] [b] pos) (e2 gNotInK fa fb) :=
  de_2 (fun t u p q => pe_cmp (pc_dnotin (units1 hu) p q) hm) opf_notInK ha hb
theorem t_inK (hu : X.A.units + 64 < cLine) (ha : DE X W a fa) (hb : DE X W b fb) (hm : behindInMarks .In b = false) : DT X W (.Compare a [.In] [b] pos) (tT (e2 gInK fa fb)) := by
  obtain ⟨ta, tb, pa, pb, q⟩ := de_2t (r := rInK) opf_inK ha hb
  exact ⟨_, pt_cmp (pc_din (units1 hu) pa pb) hm, sim_test q⟩
theorem t_notinK (hu : X.A.units + 64 < cLine) (ha : DE X W a fa) (hb : DE X W b fb) (hm : behindInMarks .NotIn b = false) : DT X W (.Compare a [.NotIn] [b] pos) (tT (e2 gNotInK fa fb)) := by
  obtain ⟨ta, tb, pa, pb, q⟩ := de_2t (r := rNotInK) opf_notInK ha hb
  exact ⟨_, pt_cmp (pc_dnotin (units1 hu) pa pb) hm, sim_test q⟩
def gDGet (x z : D) : D → Option (Nat × D)
  | .dct ks ds => (match dKey x with
    | some k => some (0, (dgetD ks ds k).getD z)
    | none => none)
  | _ => none
def eDGet (fo fe ff : EV) : EV := fun δ => match fo δ with
  | .ok _ (.dct ks ds) δ1 => (match fe δ1 with
    | .ok _ x δ2 => (match ff δ2 with
      | .ok _ z δ3 => toRes δ3 (gDGet x z (.dct ks ds))
      | r => r)
    | r => r)
  | .ok _ _ _ => .bad
  | r => r
theorem de_dget2 (mk : ∀ td ty tx, PE X o td → PE X e ty → PE X f tx → PE X (.Call (.Attribute o "get" apos) [e, f] [] cpos) (tDGet2 td ty tx)) (ho : DE X W o fo) (he : DE X W e fe) (hf : DE X W f ff) :
    DE X W (.Call (.Attribute o "get" apos) [e, f] [] cpos) (eDGet fo fe ff) := by
  obtain ⟨to, po, qo⟩ := ho.ex
  obtain ⟨te, pe, qe⟩ := he.ex
  obtain ⟨tf, pf, qf⟩ := hf.ex
  refine ⟨_, mk to te tf po pe pf, fun σ H δ L R Q s ok => ?_⟩
  unfold eDGet at ok
  refine qo σ H δ L R _ s ?_
  cases hfo : fo δ with
  | bad => rw [hfo] at ok; exact ok
  | exc x δ' => rw [hfo] at ok; exact ok
  | ok m d δ1 =>
    rw [hfo] at ok
    intro v H1 l1 L1 k1 w1 s1 r1
    cases d with
    | dct ks ds =>
      simp only at ok
      obtain ⟨y1, y2⟩ := fz_at s1
      have r1z := r1.fz y1 y2
      have r1z' := r1z
      simp only [Rp] at r1z'
      obtain ⟨a, vs, rfl, hl, hz, _, _⟩ := r1z'
      refine ⟨a, rfl, .inl ⟨_, .inl hz.1⟩, ?_⟩
      refine qe σ H1 δ1 L1 (l1 ++ R) _ s1 ?_
      cases hg : fe δ1 with
      | bad => rw [hg] at ok; exact ok
      | exc x δ' => rw [hg] at ok; exact XOk.more k1 w1 ok
      | ok n x δ2 =>
        rw [hg] at ok
        simp only at ok
        intro u H2 l2 L2 k2 w2 s2 r2
        obtain ⟨z1, z2⟩ := tmp_step s1 k2 w2
        have r1b := r1.step k2 (fun a ha => List.mem_append_left _ ha) z2 z1
        have s2' : SR X.K σ H2 δ2 L2 ((l2 ++ l1) ++ R) := by rw [List.append_assoc]; exact s2
        have r1c : Rp X.K H2 (L2 ++ ((l2 ++ l1) ++ R)) m (.dct ks ds) (.ref a) l1 := by rw [List.append_assoc]; exact r1b
        have r2c : Rp X.K H2 (L2 ++ ((l2 ++ l1) ++ R)) n x u l2 := by rw [List.append_assoc]; exact r2
        have a1 : Nw H L (l2 ++ L2) := Nw.trans k1 w1.right w2
        have w12 : Nw H L ((l2 ++ l1) ++ L2) := Nw.both (Nw.both a1.left w1.left) a1.right
        have k12 := k1.trans w1.right k2
        refine qf σ H2 δ2 L2 ((l2 ++ l1) ++ R) _ s2' ?_
        cases hh : ff δ2 with
        | bad => rw [hh] at ok; exact ok
        | exc x δ' => rw [hh] at ok; exact XOk.more k12 w12 ok
        | ok n3 z δ3 =>
          rw [hh] at ok
          simp only at ok
          intro u3 H3 l3 L3 k3 w3 s3 r3
          obtain ⟨z3, z4⟩ := tmp_step s2' k3 w3
          have r1d := r1c.step k3 (fun a ha => List.mem_append_left _ ha) z4 (fun a ha => z3 a (List.mem_append_right _ ha))
          have r2d := r2c.step k3 (fun a ha => List.mem_append_left _ ha) z4 (fun a ha => z3 a (List.mem_append_left _ ha))
          have s3' : SR X.K σ H3 δ3 L3 ((l3 ++ (l2 ++ l1)) ++ R) := by rw [List.append_assoc]; exact s3
          have r1e : Rp X.K H3 (L3 ++ ((l3 ++ (l2 ++ l1)) ++ R)) m (.dct ks ds) (.ref a) l1 := by rw [List.append_assoc]; exact r1d
          have r2e : Rp X.K H3 (L3 ++ ((l3 ++ (l2 ++ l1)) ++ R)) n x u l2 := by rw [List.append_assoc]; exact r2d
          have r3e : Rp X.K H3 (L3 ++ ((l3 ++ (l2 ++ l1)) ++ R)) n3 z u3 l3 := by rw [List.append_assoc]; exact r3
          obtain ⟨x1, x2⟩ := fz_at s3'
          have b1 : Nw H L (l3 ++ L3) := Nw.trans k12 w12.right w3
          have w123 : Nw H L ((l3 ++ (l2 ++ l1)) ++ L3) := Nw.both (Nw.both b1.left w12.left) b1.right
          have ok2 := fin_new (k12.trans w12.right k3) w123 s3' ok
          have q1 := r1e.fz (fun a ha => x1 a (List.mem_append_right _ (List.mem_append_right _ ha))) x2
          have q2 := r2e.fz (fun a ha => x1 a (List.mem_append_right _ (List.mem_append_left _ ha))) x2
          have q3 := r3e.fz (fun a ha => x1 a (List.mem_append_left _ ha)) x2
          simp only [Rp] at q1
          obtain ⟨a', vs', ea, hl', hz', _, rr⟩ := q1
          cases ea
          unfold gDGet at ok2
          simp only at ok2
          split at ok2
          · rename_i k hk
            obtain ⟨rfl, _⟩ := dKey_v q2 hk
            refine ⟨_, DGet.k hz'.1, ?_⟩
            have hd := dget_v k rr hl'
            cases e : dgetD ks ds k with
            | none =>
              rw [e] at hd ok2
              rw [hd]
              exact ok2.at q3
            | some d =>
              rw [e] at hd ok2
              obtain ⟨v, hv, rv⟩ := hd
              rw [hv]
              exact ok2.at rv
          · exact ok2.elim
    | _ => exact ok.elim
end
section
variable {X : Cx} {W : WX} {o e f : Expr} {fo fe ff : EV} {apos cpos : Pos}
theorem d_dget (hu : X.A.units + 64 < cLine) (ho : DE X W o fo) (he : DE X W e fe) (hf : DE X W f ff) (hbase : attributeBase o "get" X.env (eval o X.env) = eval o X.env := by rfl)
    (hfew : ((backTo cpos (starEach [e, f] X.env)).all (fun x => !x.1) && (backToKw cpos (keywordEach [] X.env)).all (fun x => x.1.isSome)
      && decide (([e, f] : List Expr).length + ([] : List Keyword).length + (if ([] : List Keyword).isEmpty then 0 else 1) < 30)) = true := by rfl)
    (hline : (apos.endLine == cpos.line) = true := by rfl) (ht : backTo cpos (starEach [e, f] X.env) = [(false, eval e X.env), (false, eval f X.env)] := by rfl) :
    DE X W (.Call (.Attribute o "get" apos) [e, f] [] cpos) (eDGet fo fe ff) :=
  de_dget2 (fun td ty tx h1 h2 h3 => pe_dget2 (units1 hu) h1 h2 h3 ⟨hbase, hfew, hline, ht⟩) ho he hf
end
theorem zip_any {ks : List Key} {vs : List V} (x : Key) (hl : ks.length = vs.length) : ((ks.zip vs).any fun kv => decide (kv.1 = x)) = ks.any fun k => decide (k = x) := by
  induction ks generalizing vs with
  | nil => rfl
  | cons k ks ih =>
    cases vs with
    | nil => cases hl
    | cons v vs => rw [List.zip_cons_cons, List.any_cons, List.any_cons, ih (by simpa using hl)]
theorem putV_len {α : Type} (x : Key) (e : α) : ∀ {ks : List Key} {vs : List α}, ks.length = vs.length → (putV ks vs x e).length = ks.length
  | [], [], _ => rfl
  | [], v :: vs, h => by cases h
  | k :: ks, [], h => by cases h
  | k :: ks, v :: vs, h => by
    have ih := putV_len x e (ks := ks) (vs := vs) (by simpa using h)
    simp [putV, ih]
theorem putV_zip (x : Key) (e : V) : ∀ {ks : List Key} {vs : List V}, ks.length = vs.length → (ks.zip vs).map (fun kv => if kv.1 = x then (kv.1, e) else kv) = ks.zip (putV ks vs x e)
  | [], _, _ => rfl
  | k :: ks, [], h => by cases h
  | k :: ks, v :: vs, h => by
    have ih := putV_zip x e (ks := ks) (vs := vs) (by simpa using h)
    rw [List.zip_cons_cons, List.map_cons, ih, putV, List.zip_cons_cons]
    by_cases z : k = x
    · rw [if_pos z, if_pos z]
    · rw [if_neg z, if_neg z]
theorem put_zip {ks : List Key} {vs : List V} (x : Key) (e : V) (hl : ks.length = vs.length) : putK (ks.zip vs) x e = (putKs ks x).zip (putDs ks vs x e) ∧ (putKs ks x).length = (putDs ks vs x e).length := by
  unfold putK putKs putDs
  rw [zip_any x hl]
  by_cases z : (ks.any fun k => decide (k = x)) = true
  · rw [if_pos z, if_pos z, if_pos z]
    exact ⟨putV_zip x e hl, (putV_len x e hl).symm⟩
  · rw [if_neg z, if_neg z, if_neg z]
    refine ⟨?_, by simp [hl]⟩
    rw [List.zip_append hl]
    rfl
theorem Rps.snocD {K : PySem.W.Frag} {H : Hp} {N : As} {e : D} {u : V} (re : Rp K H N 0 e u []) : ∀ {ds : List D} {vs : List V}, Rps K H N 0 ds vs [] → Rps K H N 0 (ds ++ [e]) (vs ++ [u]) []
  | [], vs, h => by
    simp only [Rps] at h
    rw [h.1]
    show Rps K H N 0 [e] [u] []
    simp only [Rps]
    exact ⟨u, [], [], [], rfl, rfl, re, rfl, rfl⟩
  | d :: ds, vs, h => by
    simp only [Rps] at h
    obtain ⟨v, vr, l1, l2, rfl, el, r1, r2⟩ := h
    have e1 := r1.zero
    have e2 := r2.zero
    subst e1 e2
    have ih := Rps.snocD re r2
    show Rps K H N 0 (d :: (ds ++ [e])) (v :: (vr ++ [u])) []
    simp only [Rps]
    exact ⟨v, _, [], [], rfl, rfl, r1, ih⟩
theorem Rps.putV {K : PySem.W.Frag} {H : Hp} {N : As} {e : D} {u : V} (x : Key) (re : Rp K H N 0 e u []) : ∀ {ks : List Key} {ds : List D} {vs : List V}, Rps K H N 0 ds vs [] → ks.length = vs.length → Rps K H N 0 (DL.putV ks ds x e) (DL.putV ks vs x u) []
  | [], ds, vs, h, hl => by
    show Rps K H N 0 (DL.putV [] ds x e) (DL.putV [] vs x u) []
    cases ds <;> cases vs <;> simp [DL.putV, Rps]
  | k :: ks, [], vs, h, hl => by
    simp only [Rps] at h
    rw [h.1] at hl
    cases hl
  | k :: ks, d :: ds, vs, h, hl => by
    simp only [Rps] at h
    obtain ⟨v, vr, l1, l2, rfl, el, r1, r2⟩ := h
    have e1 := r1.zero
    have e2 := r2.zero
    subst e1 e2
    have ih := Rps.putV x re r2 (show ks.length = vr.length by simpa using hl)
    show Rps K H N 0 ((if k = x then e else d) :: DL.putV ks ds x e) ((if k = x then u else v) :: DL.putV ks vr x u) []
    simp only [Rps]
    refine ⟨_, _, [], [], rfl, rfl, ?_, ih⟩
    by_cases z : k = x
    · rw [if_pos z, if_pos z]; exact re
    · rw [if_neg z, if_neg z]; exact r1
theorem Rps.putDs {K : PySem.W.Frag} {H : Hp} {N : As} {e : D} {u : V} (x : Key) (re : Rp K H N 0 e u []) {ks : List Key} {ds : List D} {vs : List V} (h : Rps K H N 0 ds vs []) (hl : ks.length = vs.length) : Rps K H N 0 (DL.putDs ks ds x e) (DL.putDs ks vs x u) [] := by
  unfold DL.putDs
  by_cases z : (ks.any fun k => decide (k = x)) = true
  · rw [if_pos z, if_pos z]; exact Rps.putV x re h hl
  · rw [if_neg z, if_neg z]; exact Rps.snocD re h
theorem SR.mutD {K : PySem.W.Frag} {σ : L2.St} {H : Hp} {δ : DL.Env} {L R : As} {j : Nat} {ks : List Key} {ds : List D} (s : SR K σ H δ L R) (e : δ[j]? = some (some (1, .dct ks ds))) :
    ∃ a vs L2, σ[j]? = some (some (.ref a)) ∧ ks.length = vs.length ∧ H a = some (.dK (ks.zip vs)) ∧ L.Perm ([a] ++ L2) ∧ Rps K H (L ++ R) 0 ds vs [] ∧
      ∀ ks' ds' vs', ks'.length = vs'.length → Rps K H (L ++ R) 0 ds' vs' [] → SR K σ (upd H a (.dK (ks'.zip vs'))) (δ.set j (some (1, .dct ks' ds'))) ([a] ++ L2) R := by
  obtain ⟨v, l, L2, h1, h2, h3, h4⟩ := s.get e
  simp only [Rp] at h3
  obtain ⟨a, vs, l', rfl, hl, hA, rfl, hr⟩ := h3
  have zl := hr.zero
  subst zl
  refine ⟨a, vs, L2, h1, hl, hA, h2, hr, fun ks' ds' vs' hl' hr' => ?_⟩
  have k : Kp H (upd H a (.dK (ks'.zip vs'))) [a] := ⟨fun b o q n => by rw [upd_ne (by simpa using n)]; exact q, fun b hb => (List.mem_singleton.mp hb) ▸ .inr ⟨_, hA⟩⟩
  have io : ∀ b, IsOwn H b → IsOwn (upd H a (.dK (ks'.zip vs'))) b := fun b q => by
    by_cases z : b = a
    · subst z; exact .inr ⟨_, upd_same⟩
    · rcases q with ⟨x, q⟩ | ⟨x, q⟩
      · exact .inl ⟨x, by rw [upd_ne z]; exact q⟩
      · exact .inr ⟨x, by rw [upd_ne z]; exact q⟩
  have h5 : SR K σ (upd H a (.dK (ks'.zip vs'))) (δ.set j none) L2 ([a] ++ R) := h4.step k (fun b hb => List.mem_append_left _ hb) h4.nd (fun b hb => .inl hb) (fun b hb => io b (h4.tr b hb))
  have hj : j < δ.length := (List.getElem?_eq_some_iff.mp e).1
  have aL : a ∈ L := h2.mem_iff.mpr (by simp)
  have h6 := h5.put (i := j) (m := 1) (d := .dct ks' ds') (v := .ref a) (by rw [List.getElem?_set_self hj]) (by
    simp only [Rp]
    refine ⟨a, vs', [], rfl, hl', upd_same, rfl, hr'.step k (fun b hb => ?_) (fun b hb => .inl ?_) (fun b hb => nomatch hb)⟩
    · rw [List.mem_singleton.mp hb]; exact List.mem_append_left _ aL
    · rcases List.mem_append.mp hb with hb | hb
      · exact List.mem_append_left _ (h2.mem_iff.mpr (List.mem_append_right _ hb))
      · rcases List.mem_append.mp hb with hb | hb
        · rw [List.mem_singleton.mp hb]; exact List.mem_append_left _ aL
        · exact List.mem_append_right _ hb)
  rw [List.set_set, set_same h1] at h6
  exact h6
def sDPut (j : Nat) (fi f : EV) : SV := fun δ => match f δ with
  | .ok _ d δ1 => (match δ1[j]? with
    | some (some (1, .dct _ _)) => (match fi δ1 with
      | .ok _ x δ2 => (match δ2[j]? with
        | some (some (1, .dct ks ds)) => (match dKey x with
          | some k => if ks.length < sizeLine then .nx (δ2.set j (some (1, .dct (putKs ks k) (putDs ks ds k d)))) else .bad
          | none => .bad)
        | _ => .bad)
      | .exc x δ' => .exc x δ'
      | .bad => .bad)
    | _ => .bad)
  | .exc x δ' => .exc x δ'
  | .bad => .bad
section
variable {X : Cx} {W : WX} {F : List Nat} {a b e o i value : Expr} {fi fe : EV} {j : Nat} {pos pos' : Pos}
theorem ds_dput (mk : ∀ td ty tv, PE X o td → PE X i ty → PE X value tv → PS X (.Assign [.Subscript o i pos'] value pos) (L2.sDPut td ty tv)) (ho : PE X o (tVar j)) (hi : DE X W i fi) (hv : DE X W value fe) :
    DS X W F (.Assign [.Subscript o i pos'] value pos) (sDPut j fi fe) := by
  obtain ⟨ti, pi, qi⟩ := hi.ex
  obtain ⟨te, pe, qe⟩ := hv.ex
  refine ⟨_, mk _ ti te ho pi pe, fun σ H δ L R D s ok => ?_⟩
  unfold sDPut at ok
  refine qe σ H δ L R _ s ?_
  cases hf : fe δ with
  | bad => rw [hf] at ok; exact ok
  | exc x δ' => rw [hf] at ok; exact XOk.st ok
  | ok m d δ1 =>
    rw [hf] at ok
    simp only at ok
    intro u H1 l L1 k1 w1 s1 rp
    split at ok
    · rename_i ks0 ds0 hd0
      obtain ⟨a0, vs0, L0, g1, g2, g3, g4, g5, g6⟩ := SR.mutD s1 hd0
      refine ⟨_, g1, ?_⟩
      refine qi σ H1 δ1 L1 (l ++ R) _ s1 ?_
      cases hg : fi δ1 with
      | bad => rw [hg] at ok; exact ok.elim
      | exc x δ' => rw [hg] at ok; exact XOk.more k1 w1 (XOk.st ok)
      | ok n x δ2 =>
        rw [hg] at ok
        simp only at ok
        intro vi H2 l2 L2 k2 w2 s2 ri
        split at ok
        · rename_i ks ds hd
          split at ok
          · rename_i k hk
            split at ok
            · rename_i hlt
              obtain ⟨rfl, rfl⟩ := dKey_v ri hk
              simp only [List.nil_append] at s2 ri w2
              obtain ⟨z1, z2⟩ := tmp_step (l2 := []) s1 k2 (by simpa using w2)
              have rp2 := rp.step k2 (fun a ha => List.mem_append_left _ ha) (by simpa using z2) z1
              have hz := fz_at s2
              have r1 : Rp X.K H2 (L2 ++ R) 0 d u [] := rp2.fz hz.1 (by simpa using hz.2)
              have s2' : SR X.K σ H2 δ2 L2 R := s2.less (List.sublist_append_right _ _)
              obtain ⟨a, vs, L3, f1, f2, f3, f4, f5, f6⟩ := SR.mutD s2' hd
              rw [g1] at f1
              cases f1
              obtain ⟨e1, e2⟩ := put_zip k u f2
              have s3 := f6 (putKs ks k) (putDs ks ds k d) (putDs ks vs k u) e2 (Rps.putDs k r1 f5 f2)
              refine ⟨a0, _, rfl, DPut.k f3 (by rw [List.length_zip, ← f2, Nat.min_self]; exact hlt), ?_⟩
              rw [e1]
              have al : a0 ∈ L2 := f4.mem_iff.mpr (by simp)
              have w12 : Nw H L L2 := Nw.trans k1 w1.right w2
              have k12 := k1.trans w1.right k2
              refine ok σ _ _ (kp_mut k12 w12 al) (fun x hx => ?_) s3 Fix.refl
              exact w12 x (f4.mem_iff.mpr hx)
            · exact ok.elim
          · exact ok.elim
        · exact ok.elim
    · exact ok.elim
theorem d_dput (hu : X.A.units + 64 < cLine) (ho : PE X o (tVar j)) (hi : DE X W i fi) (hv : DE X W value fe) (hs : swapsWith value (some (.Subscript o i pos')) pos.line X.env = pure false := by rfl) :
    DS X W F (.Assign [.Subscript o i pos'] value pos) (sDPut j fi fe) :=
  ds_dput (fun td ty tv h1 h2 h3 => ps_dput (units1 hu) h1 h2 h3 hs) ho hi hv
end
theorem Rps.rev {K : PySem.W.Frag} {H : Hp} {N : As} {m : Nat} : ∀ {ds : List D} {vs : List V} {l : As}, Rps K H N m ds vs l → ∃ l2, l2.Perm l ∧ Rps K H N m ds.reverse vs.reverse l2
  | [], vs, l, h => by
    simp only [Rps] at h
    obtain ⟨rfl, rfl⟩ := h
    exact ⟨[], List.Perm.refl _, by simp [Rps]⟩
  | d :: ds, vs, l, h => by
    simp only [Rps] at h
    obtain ⟨v, vr, l1, l2, rfl, rfl, r1, r2⟩ := h
    obtain ⟨l3, p, q⟩ := Rps.rev r2
    have one : Rps K H N m [d] [v] l1 := by
      simp only [Rps]
      exact ⟨v, [], l1, [], rfl, by simp, r1, rfl, rfl⟩
    refine ⟨l3 ++ l1, (List.Perm.append_right l1 p).trans List.perm_append_comm, ?_⟩
    rw [List.reverse_cons, List.reverse_cons]
    exact Rps.app q one
def sRev (j : Nat) (p : List Nat) : SV := fun δ => match δ[j]? with
  | some (some (k + 1, d1)) => (match d1.at p with
    | some (.lst ds) => .nx (δ.set j (some (k + 1, d1.put p (.lst ds.reverse))))
    | _ => .bad)
  | _ => .bad
section
variable {X : Cx} {W : WX} {F : List Nat} {e o : Expr} {fe : EV} {j : Nat} {p : List Nat} {pos apos cpos : Pos}
theorem ds_reverse (mk : ∀ to, PE X o to → PS X (.Expr (.Call (.Attribute o "reverse" apos) [] [] cpos) pos) (tDrop (tBM0 X.K "list" rReverse to))) (ho : DP X o j p) :
    DS X W F (.Expr (.Call (.Attribute o "reverse" apos) [] [] cpos) pos) (sRev j p) := by
  obtain ⟨to, po, qo⟩ := ho.ex
  refine ⟨_, mk to po, fun σ H δ L R D s ok => ?_⟩
  unfold sRev at ok
  split at ok
  · rename_i kk d0 hd0
    split at ok
    · rename_i ds0 ha0
      obtain ⟨v, a, vs, l', L2, f1, f2, f3, f4, f5, f6⟩ := SR.mut (lt := []) s hd0 ha0
      refine qo σ H v (.ref a) _ f1 f2 ⟨.inl ⟨rfl, vs, SqL.of f3⟩, ?_⟩
      refine ⟨a, vs, rfl, rfl, f3, ?_⟩
      obtain ⟨l2, q1, q2⟩ := f5.rev
      have s3 := f6 ds0.reverse vs.reverse l2 [] (by simpa using q1) q2
      have al : a ∈ L := f4.mem_iff.mpr (by simp)
      refine ok σ _ _ (kp_mut s.kp Nw.refl al) (fun x hx => ?_) s3 Fix.refl
      rcases List.mem_append.mp hx with hx | hx
      · rcases List.mem_cons.mp hx with rfl | hx
        · exact .inl al
        · exact .inl (f4.mem_iff.mpr (by simp [q1.mem_iff.mp hx]))
      · exact .inl (f4.mem_iff.mpr (List.mem_append_right _ hx))
    · exact ok.elim
  · exact ok.elim
theorem d_reverse (ho : DP X o j p) (hbase : attributeBase o "reverse" X.env (eval o X.env) = eval o X.env := by rfl)
    (hline : (apos.endLine == cpos.line) = true := by rfl)
    (hsw : swapsWith (.Call (.Attribute o "reverse" apos) [] [] cpos) none pos.line X.env = pure false := by rfl) :
    DS X W F (.Expr (.Call (.Attribute o "reverse" apos) [] [] cpos) pos) (sRev j p) :=
  ds_reverse (fun to ho => ps_expr (pe_bm0 PySem.F.plainAttrs_list PySem.F.slot_list_reverse PySem.F.type_list_reverse mt_reverse ho (hbase := hbase) (hline := hline)) hsw) ho
def sRem (j : Nat) (p : List Nat) (f : EV) : SV := fun δ => match δ[j]? with
  | some (some (_ + 1, d0)) => (match d0.at p with
    | some (.lst _) => (match f δ with
      | .ok _ (.int k) δ1 => (match δ1[j]? with
        | some (some (1, d1)) => (match d1.at p with
          | some (.lst ds) => (match D.ints ds with
            | some ns => if k ∈ ns then .nx (δ1.set j (some (1, d1.put p (.lst ((ns.erase k).map .int))))) else .bad
            | none => .bad)
          | _ => .bad)
        | _ => .bad)
      | .exc x δ' => .exc x δ'
      | _ => .bad)
    | _ => .bad)
  | _ => .bad
theorem erase_mapA {α β : Type} (f : α → β) : ∀ (xs : List α) (n : Nat), (xs.map f).eraseIdx n = (xs.eraseIdx n).map f
  | [], _ => rfl
  | _ :: _, 0 => rfl
  | x :: xs, n + 1 => by
    show f x :: (xs.map f).eraseIdx n = f x :: (xs.eraseIdx n).map f
    rw [erase_mapA f xs n]
theorem first_ix {ns : List Int} {k : Int} (h : k ∈ ns) : ∃ j, ns[j]? = some k ∧ (∀ i, i < j → ns[i]? ≠ some k) ∧ ns.eraseIdx j = ns.erase k := by
  induction ns with
  | nil => cases h
  | cons a r ih =>
    by_cases e : a = k
    · refine ⟨0, by rw [e]; rfl, fun i hi => absurd hi (Nat.not_lt_zero _), ?_⟩
      rw [e, List.erase_cons_head]
      rfl
    · have hr : k ∈ r := (List.mem_cons.mp h).resolve_left fun z => e z.symm
      obtain ⟨j, h2, h3, h4⟩ := ih hr
      refine ⟨j + 1, h2, fun i hi => ?_, ?_⟩
      · cases i with
        | zero => exact fun z => e (Option.some.inj z)
        | succ i => exact h3 i (Nat.lt_of_succ_lt_succ hi)
      · rw [List.erase_cons_tail (by rw [beq_iff_eq]; exact e), ← h4]
        rfl
theorem ds_remove (mk : ∀ to te, PE X o to → PE X e te → PS X (.Expr (.Call (.Attribute o "remove" apos) [e] [] cpos) pos) (tDrop (tBM X.K "list" rRemI to (tCons te tNil)))) (ho : DP X o j p) (he : DE X W e fe) :
    DS X W F (.Expr (.Call (.Attribute o "remove" apos) [e] [] cpos) pos) (sRem j p fe) := by
  obtain ⟨to, po, qo⟩ := ho.ex
  obtain ⟨te, pe, qe⟩ := he.ex
  refine ⟨_, mk to te po pe, fun σ H δ L R D s ok => ?_⟩
  unfold sRem at ok
  split at ok
  · rename_i m0 d0 hd0
    split at ok
    · rename_i ds0 ha0
      obtain ⟨v, a, vs0, g1, g2, g3⟩ := own_at s hd0 ha0
      refine qo σ H v (.ref a) _ g1 g2 ⟨.inl ⟨rfl, vs0, SqL.of g3⟩, ?_⟩
      refine qe σ H δ L R _ s ?_
      cases hf : fe δ with
      | bad => rw [hf] at ok; exact ok
      | exc x δ' => rw [hf] at ok; exact XOk.st ok
      | ok m d δ1 =>
        rw [hf] at ok
        intro u H1 l L1 k w s1 rp
        cases d with
        | int kk =>
          simp only at ok
          split at ok
          · rename_i d1 hd1
            split at ok
            · rename_i ds ha1
              split at ok
              · rename_i ns hns
                split at ok
                · rename_i hk
                  have zi : u = .int kk ∧ l = [] := by simpa only [Rp] using rp
                  obtain ⟨rfl, rfl⟩ := zi
                  have s2 : SR X.K σ H1 δ1 L1 ([] ++ R) := s1
                  obtain ⟨v', a', vs, l', L2, f1, f2, f3, f4, f5, f6⟩ := SR.mut s2 hd1 ha1
                  rw [g1] at f1; cases f1
                  have := PathV.uniq (PathV.step k g2) f2
                  cases this
                  have zl := f5.zero
                  subst zl
                  obtain ⟨e1, e2⟩ := f5.ints hns
                  subst e1
                  subst e2
                  obtain ⟨n, j1, j2, j3⟩ := first_ix hk
                  refine ⟨a, ns, kk, n, rfl, rfl, f3, j1, j2, ?_⟩
                  have em : ∀ {α : Type} (f : Int → α), (ns.map f).eraseIdx n = (ns.erase kk).map f := fun f => by
                    rw [← j3]
                    exact erase_mapA f ns n
                  have s3 := f6 ((ns.erase kk).map .int) ((ns.erase kk).map V.int) [] [] (by simp) (by
                    have := f5.erase0 n
                    rw [em, em] at this
                    exact this)
                  rw [j3]
                  have al : a ∈ L1 := f4.mem_iff.mpr (by simp)
                  refine ok σ _ _ (kp_mut k w.right al) (fun x hx => ?_) (by simpa using s3) Fix.refl
                  exact w.right x (f4.mem_iff.mpr (by simpa using hx))
                · exact ok.elim
              · exact ok.elim
            · exact ok.elim
          · exact ok.elim
        | _ => exact ok.elim
    · exact ok.elim
  · exact ok.elim
theorem d_remove (ho : DP X o j p) (he : DE X W e fe) (hbase : attributeBase o "remove" X.env (eval o X.env) = eval o X.env := by rfl)
    (hfew : ((backTo cpos (starEach (e :: []) X.env)).all (fun x => !x.1) && (backToKw cpos (keywordEach [] X.env)).all (fun x => x.1.isSome)
      && decide ((e :: ([] : List Expr)).length + ([] : List Keyword).length + (if ([] : List Keyword).isEmpty then 0 else 1) < 30)) = true := by rfl)
    (hline : (apos.endLine == cpos.line) = true := by rfl) (hs : starEach (e :: []) X.env = (false, eval e X.env) :: starEach [] X.env := by rfl) (hplain : (backTo cpos (starEach [] X.env)).any (·.1) = false := by rfl)
    (hsw : swapsWith (.Call (.Attribute o "remove" apos) [e] [] cpos) none pos.line X.env = pure false := by rfl) :
    DS X W F (.Expr (.Call (.Attribute o "remove" apos) [e] [] cpos) pos) (sRem j p fe) :=
  ds_remove (fun to te ho he => ps_expr (pe_bm PySem.F.plainAttrs_list PySem.F.slot_list_remove PySem.F.type_list_remove mt_remove ho (pa_cons he pa_nil hs) (hbase := hbase) (hfew := hfew) (hline := hline) (hs := hs) (hplain := hplain)) hsw) ho he
end
section
variable {δ δ1 : DL.Env} {fo fe ff fi : EV} {d e z x dd : D} {ds : List D} {ks : List Key} {m k j : Nat} {p : List Nat} {n i : Int}
theorem gDGet_i : gDGet (.int i) z (.dct ks ds) = some (0, (dgetD ks ds (.inl i)).getD z) := Eq.trans rfl rfl
theorem gInK_i : gInK (.int i) (.dct ks ds) = some (0, .bl (dgetD ks ds (.inl i)).isSome) := Eq.trans rfl rfl
theorem gNotInK_i : gNotInK (.int i) (.dct ks ds) = some (0, .bl (!(dgetD ks ds (.inl i)).isSome)) := Eq.trans rfl rfl
def Res.kdg2 (r : Res) (x dd : D) : Res := match r with
  | .ok _ z δ3 => toRes δ3 (gDGet x z dd)
  | r => r
def Res.kdg1 (r : Res) (dd : D) (ff : EV) : Res := match r with
  | .ok _ x δ2 => (ff δ2).kdg2 x dd
  | r => r
def Res.kdg (r : Res) (fe ff : EV) : Res := match r with
  | .ok _ d δ1 => (match d with
    | .dct ks ds => (fe δ1).kdg1 (.dct ks ds) ff
    | _ => .bad)
  | r => r
theorem eDGet_k : eDGet fo fe ff δ = (fo δ).kdg fe ff := by
  unfold eDGet Res.kdg
  cases fo δ with
  | ok m d δ1 =>
    cases d <;> rfl
  | _ => rfl
theorem kdg_ok : (Res.ok m (.dct ks ds) δ).kdg fe ff = (fe δ).kdg1 (.dct ks ds) ff := Eq.trans rfl rfl
theorem kdg1_ok : (Res.ok m x δ).kdg1 dd ff = (ff δ).kdg2 x dd := Eq.trans rfl rfl
theorem kdg2_ok : (Res.ok m z δ).kdg2 x dd = toRes δ (gDGet x z dd) := Eq.trans rfl rfl
def isDct1 : Option (Nat × D) → Bool
  | some (1, .dct _ _) => true
  | _ => false
theorem isDct1_k : isDct1 (some (1, .dct ks ds)) = true := Eq.trans rfl rfl
def dpO (o : Option (Nat × D)) (x : D) (j : Nat) (d : D) (δ2 : DL.Env) : SRes := match o with
  | some (1, .dct ks ds) => (match dKey x with
    | some k => if ks.length < sizeLine then .nx (put δ2 j (some (1, .dct (putKs ks k) (putDs ks ds k d)))) else .bad
    | none => .bad)
  | _ => .bad
def Res.kdp1 (r : Res) (j : Nat) (d : D) : SRes := match r with
  | .ok _ x δ2 => dpO (look δ2 j) x j d δ2
  | .exc x δ' => .exc x δ'
  | .bad => .bad
def Res.kdp (r : Res) (j : Nat) (fi : EV) : SRes := match r with
  | .ok _ d δ1 => cond (isDct1 (look δ1 j)) ((fi δ1).kdp1 j d) .bad
  | .exc x δ' => .exc x δ'
  | .bad => .bad
theorem sDPut_k : sDPut j fi fe δ = (fe δ).kdp j fi := by
  unfold sDPut
  cases fe δ with
  | bad => rfl
  | exc x δ' => rfl
  | ok m d δ1 =>
    simp only [Res.kdp, look_eq]
    rcases h1 : δ1[j]? with _ | (_ | ⟨_ | _ | k, d0⟩) <;> try rfl
    cases d0 <;> try rfl
    simp only [Option.join_some, isDct1, cond_true]
    cases fi δ1 with
    | bad => rfl
    | exc x δ' => rfl
    | ok mi ei δ2 =>
      simp only [Res.kdp1, look_eq]
      rcases h3 : δ2[j]? with _ | (_ | ⟨_ | _ | k', d1⟩) <;> try rfl
      cases d1 <;> try rfl
      simp only [Option.join_some, dpO, put_eq]
theorem kdp_ok (h : isDct1 (look δ j) = true) : (Res.ok m d δ).kdp j fi = (fi δ).kdp1 j d := by
  show cond (isDct1 (look δ j)) _ _ = _
  rw [h]; rfl
theorem kdp1_ok : (Res.ok m x δ).kdp1 j d = dpO (look δ j) x j d δ := Eq.trans rfl rfl
theorem dpO_k (h : ks.length < 16777216) : dpO (some (1, .dct ks ds)) (.int i) j d δ = .nx (put δ j (some (1, .dct (putKs ks (.inl i)) (putDs ks ds (.inl i) d)))) := if_pos h
def rev1 (o : Option D) (k j : Nat) (p : List Nat) (d1 : D) (δ : DL.Env) : SRes := match o with
  | some (.lst ds) => .nx (put δ j (some (k + 1, d1.put p (.lst ds.reverse))))
  | _ => .bad
def revO (o : Option (Nat × D)) (j : Nat) (p : List Nat) (δ : DL.Env) : SRes := match o with
  | some (k + 1, d1) => rev1 (d1.at p) k j p d1 δ
  | _ => .bad
theorem sRev_k : sRev j p δ = revO (look δ j) j p δ := by
  unfold sRev revO
  rw [look_eq]
  rcases h : δ[j]? with _ | (_ | ⟨_ | m, d⟩) <;> try rfl
  all_goals
    simp only [Option.join_some, rev1, put_eq]
    all_goals
      rcases d.at p with _ | e
      · rfl
      · cases e <;> rfl
theorem revO_k : revO (some (k + 1, d)) j p δ = rev1 (d.at p) k j p d δ := Eq.trans rfl rfl
theorem rev1_k : rev1 (some (.lst ds)) k j p d δ = .nx (put δ j (some (k + 1, d.put p (.lst ds.reverse)))) := Eq.trans rfl rfl
def rem1 (o : Option D) (c : Int) (j : Nat) (p : List Nat) (d1 : D) (δ : DL.Env) : SRes := match o with
  | some (.lst ds) => (match D.ints ds with
    | some ns => if c ∈ ns then .nx (put δ j (some (1, d1.put p (.lst ((ns.erase c).map .int))))) else .bad
    | none => .bad)
  | _ => .bad
def remO (o : Option (Nat × D)) (c : Int) (j : Nat) (p : List Nat) (δ : DL.Env) : SRes := match o with
  | some (1, d1) => rem1 (d1.at p) c j p d1 δ
  | _ => .bad
def Res.krem (r : Res) (j : Nat) (p : List Nat) : SRes := match r with
  | .ok _ (.int c) δ1 => remO (look δ1 j) c j p δ1
  | .exc x δ' => .exc x δ'
  | _ => .bad
theorem sRem_k (h : ownL (look δ j) p = true) : sRem j p fe δ = (fe δ).krem j p := by
  unfold sRem
  rw [look_eq] at h
  rcases h1 : δ[j]? with _ | (_ | ⟨_ | k, d⟩)
  · rw [h1] at h; cases h
  · rw [h1] at h; cases h
  · rw [h1] at h; cases h
  · rw [h1] at h
    have h : isLst (d.at p) = true := h
    simp only
    rcases h2 : d.at p with _ | d'
    · rw [h2] at h; cases h
    · cases d' <;> first | (rw [h2] at h; cases h; done) | skip
      simp only [Res.krem]
      cases fe δ with
      | bad => rfl
      | exc x δ' => rfl
      | ok m e δ1 =>
        cases e <;> try rfl
        simp only [remO, look_eq]
        rcases h3 : δ1[j]? with _ | (_ | ⟨_ | _ | k', d1⟩) <;> try rfl
        all_goals simp only [Option.join_some, rem1, put_eq]
        all_goals
          rcases h4 : d1.at p with _ | d2
          · rfl
          · cases d2 <;> try rfl
            rename_i ds
            cases D.ints ds <;> rfl
theorem krem_ok {c : Int} : (Res.ok m (.int c) δ).krem j p = remO (look δ j) c j p δ := Eq.trans rfl rfl
theorem remO_k {c : Int} : remO (some (1, d)) c j p δ = rem1 (d.at p) c j p d δ := Eq.trans rfl rfl
theorem ints_liK : ∀ ns : List Int, D.ints (ns.map .int) = some ns
  | [] => rfl
  | n :: ns => by rw [List.map_cons]; simp [D.ints, ints_liK ns]
theorem rem1_k {c : Int} {ns : List Int} (h : c ∈ ns) : rem1 (some (.lst (ns.map .int))) c j p d δ = .nx (put δ j (some (1, d.put p (.lst ((ns.erase c).map .int))))) := by
  unfold rem1
  simp only [ints_liK, if_pos h]
end
end DL
namespace DL
open PySem PySem.Spec L2
open PyProof.Rows hiding St
mutual
theorem noDict_can : ∀ {d : PyData}, d.canLay0 = true → d.hasDict = false
  | .none, _ => rfl
  | .bool _, _ => rfl
  | .int _, _ => rfl
  | .str _, _ => rfl
  | .list xs, h => by
    simp only [PyData.canLay0] at h
    simp only [PyData.hasDict]
    exact noDict_canAll h
  | .tuple xs, h => by
    simp only [PyData.canLay0] at h
    simp only [PyData.hasDict]
    exact noDict_canAll h
  | .dict _, h => by simp [PyData.canLay0] at h
theorem noDict_canAll : ∀ {ds : List PyData}, PyData.canLayAll0 ds = true → PyData.hasDictAll ds = false
  | [], _ => rfl
  | d :: ds, h => by
    simp only [PyData.canLayAll0, Bool.and_eq_true] at h
    simp only [PyData.hasDictAll, noDict_can h.1, noDict_canAll h.2, Bool.or_false]
end
def rRepr (K : PySem.W.Frag) : List V → Hp → VK → Prop := fun xs H Q => ∃ x d, xs = [x] ∧ Dp K H x d ∧ SeqAt.shaped d = true ∧ d.showable = true ∧ d.shown.length ≤ sizeLine ∧ Q (.str d.shown) H
theorem call_reprD {X : Cx} (hg : X.A.guards = some []) (hu : X.A.units + 128 < cLine) : CallR X (.builtin "repr") (rRepr X.K) := by
  intro pins s σ H xs us Q I r h
  obtain ⟨x, d, rfl, hd, sh, sw, hl, q⟩ := h
  cases r with
  | cons ru rn =>
    rename_i u us'
    cases rn
    obtain ⟨as, rd⟩ := Dp.reads I d x u hd ru
    have fin : ∀ h' tu tk, (∀ b o, s.heap.get? b = some o → h'.get? b = some o) → EP X pins σ Q (.str d.shown tu) { s with heap := h', toks := tk } := fun h' tu tk k => ⟨.str _, H, I.kept k, ⟨tu, rfl⟩, q⟩
    have hdp := shp sh
    have hnd := noDict_can (SeqAt.canLay_of_shaped sh)
    cases u with
    | ref a => exact repr_of_reads' rd sw (PyData.noDict_hsm hnd) hg (by omega) (fun _ _ e => e) fin hl
    | none =>
      cases rd
      exact PySem.P.repr_of_none (fin s.heap _ _ fun _ _ e => e)
    | bool b =>
      cases rd
      exact PySem.P.repr_of_bool (fin s.heap _ _ fun _ _ e => e)
    | int i t =>
      cases rd
      exact PySem.P.repr_of_int (by simpa [PyData.showable] using sw) (fin s.heap _ _ fun _ _ e => e)
    | str i t =>
      cases rd
      exact PySem.P.repr_of_str (fin s.heap _ _ fun _ _ e => e) hl
    | _ => cases rd
def gRepr : List D → Option (Nat × D)
  | [d] => if isShaped d && d.py.showable && decide (d.py.shown.length ≤ sizeLine) then some (0, .str d.py.shown) else none
  | _ => none
theorem opf_repr {K : PySem.W.Frag} : OpFN K (rRepr K) gRepr := by
  intro H B ds vs Q h ok
  unfold gRepr at ok
  split at ok
  · rename_i d
    split at ok
    · rename_i hc
      simp only [Bool.and_eq_true, decide_eq_true_eq] at hc
      obtain ⟨v, rfl, r⟩ := h.one
      exact ⟨v, d.py, rfl, r.dp (SeqAt.canLay_of_shaped hc.1.1), hc.1.1, hc.1.2, hc.2, ok.str⟩
    · exact ok.elim
  · exact ok.elim
section
variable {X : Cx} {W : WX} {e : Expr} {es : List Expr} {fs : DL.Env → ARes} {p pos : Pos}
theorem d_repr (hgu : X.A.guards = some []) (hu : X.A.units + 128 < cLine) (hm : X.mg "repr" = none) (hg : Gl X "repr") (h : DA X W (e :: es) fs) (he : starEach (e :: es) X.env = (false, eval e X.env) :: starEach es X.env := by rfl) (hpl : (backTo pos (starEach es X.env)).any (·.1) = false := by rfl) :
    DE X W (.Call (.Name "repr" p) (e :: es) [] pos) (eN gRepr fs) := de_n (fun t ha => pe_callB (call_reprD hgu hu) hg hm (by decide +kernel) ha (he := he) (hpl := hpl)) opf_repr h
end
theorem units128 {k : Nat} {A : Around} (r : Room k A) : A.units + 128 < cLine := by have := r.un; omega
structure FnG (P : Program) (w : World) (K : PySem.W.Frag) (mg : Str → Option Value) (base : Heap) (k : Nat) (f : Addr) (fd : FuncData) (ps : List Str) (sp : Sp) : Prop where
  nar : ∀ vs H Q E, sp vs H Q E → vs.length = ps.length
  go : ∀ (A : Around) (outer : List PySem.Env) (s : Shared) (H : Hp) (args : Args) (us : List Value) (vs : List V) (Q : VK) (E : XK), A.guards = some [] → Room k A →
    Env0 P w K mg base A outer s H → BindsTo s fd args (ps.zip us) → Vals vs us → sp vs H Q E → codeAny (model P w) A (.call (.ref f) args) (L2.CR (L2.CX P w) outer P w H s Q E) s
section
variable {P : Program} {w : World} {K : PySem.W.Frag} {mg : Str → Option Value} {base : Heap}
theorem FnG.mono {j k : Nat} {f : Addr} {fd : FuncData} {ps : List Str} {sp : Sp} (F : FnG P w K mg base j f fd ps sp) (h : j ≤ k) : FnG P w K mg base k f fd ps sp :=
  ⟨F.nar, fun A outer s H args us vs Q E hgu hr => F.go A outer s H args us vs Q E hgu (hr.mono h)⟩
theorem FnG.of {k : Nat} {f : Addr} {fd : FuncData} {ps : List Str} {sp : Sp} (F : FnOk P w K mg base (L2.CX P w) k f fd ps sp) : FnG P w K mg base k f fd ps sp :=
  ⟨F.len, fun A outer s H args us vs Q E _ => F.run A outer s H args us vs Q E⟩
theorem fnG_body {x qual : Str} {params : Arguments} {st : List Stmt} {scope : Scope} {f : Addr} {fd : FuncData} {N ps : List Str} {k : Nat} {sp : Sp} (Fn : FunD K x qual params st scope [] [] f fd) (S : FnScope N ps scope)
    (nar : ∀ vs H Q E, sp vs H Q E → vs.length = ps.length)
    (hbody : ∀ (cdv : Value) (A : Around) (outer : List PySem.Env) (s : Shared) (H : Hp) (vs : List V) (Q : VK) (E : XK), A.guards = some [] → Room k (A.deeper (envOfC qual scope s.heap.objs.size f cdv)) → sp vs H Q E →
      ∃ t, PSs (cxOf (L2.CX P w) P w K mg base N qual scope f cdv A outer s H E) st t ∧ t { nx := fun _ H' => Q .non H', rt := Q } (L2.start N vs) H) : FnG P w K mg base (k + 1) f fd ps sp := by
  obtain ⟨oc, od, dV, kV, doc, pm, an, cdv, ct, osl, rfl, lk, hcd, _, _⟩ := Fn.ex
  refine ⟨nar, fun A outer s H args us vs Q E hgu hr e0 hb hv hsp => ?_⟩
  have keepB := fun b o (e : base.get? b = some o) => (e0.bs b o e).1
  have KX : K.In s.heap := e0.mod.kin.keeps keepB
  have lim := e0.mod.nolimit.keeps keepB
  refine codeAny_call_function hr.depth (KX _ _ lk) rfl S.co S.gen rfl (PySem.W.codeRec_of KX hcd) (hb _ _ _ _ ?_)
  refine wpAny_newFunctionEnv_cells S.kind (fun y hy => ?_) fun env he s1 ic => ?_
  · exact (S.par y.1 (List.of_mem_zip (a := y.1) (b := y.2) hy).1).imp id fun q => ⟨q, PySem.W.cellsFrom_some _ _ _ (.inl q)⟩
  · subst he
    obtain ⟨t, ht, hq⟩ := hbody cdv A outer s H vs Q E hgu (hr.deeper _) hsp
    refine ⟨lim.keeps ic.toInCall.keep, codeAny_func ?_⟩
    refine wpAny_mono (ht.run [] s1 _ H _ (inv_start S hr.hd e0 (nar _ _ _ _ hsp) hv ic) hq) (fun fl s' hs => ?_) fun _ _ hs => hs
    match fl, hs with
    | .ret u, ⟨v, _, H', J, rv, q⟩ => exact ⟨v, H', J.os, J.bare, J.base, J.hok, rv, q⟩
    | .next, ⟨_, H', J, q⟩ => exact ⟨V.non, H', J.os, J.bare, J.base, J.hok, (rfl : RelV V.non Value.none), q⟩
    | .brk, ⟨_, _, _, q⟩ => exact False.elim q
    | .cont, ⟨_, _, _, q⟩ => exact False.elim q
theorem okG_D {x qual : Str} {params : Arguments} {st : List Stmt} {scope : Scope} {f : Addr} {fd : FuncData} {N ps : List Str} {k : Nat} {pm : List Nat} {body : SV} (Fn : FunD K x qual params st scope [] [] f fd)
    (S : FnScope N ps scope) (hl : pm.length = ps.length)
    (hbody : ∀ (cdv : Value) (A : Around) (outer : List PySem.Env) (s : Shared) (H : Hp) (E : XK), A.guards = some [] → Room k (A.deeper (envOfC qual scope s.heap.objs.size f cdv)) →
      DSs (cxOf (L2.CX P w) P w K mg base N qual scope f cdv A outer s H E) (WF E) (lentsOf 0 pm) st body) :
    FnG P w K mg base (k + 1) f fd ps (spD K mg pm (runF pm N.length body)) := by
  have hN : pm.length ≤ N.length := by
    have := congrArg List.length S.pre
    rw [List.length_take] at this; omega
  refine fnG_body Fn S (fun vs H Q E h => ?_) fun cdv A outer s H vs Q E hgu hr hsp => ?_
  · obtain ⟨ds, l, R, h, _⟩ := h
    rw [h.len, hl]
  · obtain ⟨t, p, q⟩ := (hbody cdv A outer s H E hgu hr).ex
    refine ⟨t, p, ?_⟩
    obtain ⟨ds, l, R, ha, nd, tr, hq⟩ := hsp
    have hvl := ha.len
    have sr : SR K (L2.start N vs) H (startD pm ds N.length) l R := ⟨⟨l, List.Perm.refl _, srs_start N.length ha hN⟩, nd, tr⟩
    have h0 : ∀ i, i ∈ lentsOf 0 pm → (L2.start N vs)[i]? = (vs.map some)[i]? := fun i hi => by
      have := lents_lt 0 pm i hi
      unfold L2.start
      rw [List.getElem?_append_left (by simp; omega)]
    refine q _ H _ l R _ sr ?_
    unfold runF at hq
    cases hb : body (startD pm ds N.length) with
    | nx δ' =>
      rw [hb] at hq
      simp only at hq
      cases ho : outsOf pm δ' with
      | none => rw [ho] at hq; exact hq.elim
      | some outs =>
        rw [ho] at hq
        intro σ' H' L' k1 w1 s1 fx
        obtain ⟨l', m1, m2, m3⟩ := outs_at s1 ho hvl fx h0
        exact hq .non H' [] l' k1 (Nw.both (fun _ z => by cases z) fun a h => w1 a (m1 a h)) m2 s1.tr (by simp [Rp]) m3
    | ret m d δ' =>
      rw [hb] at hq
      simp only at hq
      cases ho : outsOf pm δ' with
      | none => rw [ho] at hq; exact hq.elim
      | some outs =>
        rw [ho] at hq
        intro v σ' H' l2 L' k1 w1 s1 fx rp
        obtain ⟨l', m1, m2, m3⟩ := outs_at s1 ho hvl fx h0
        refine hq v H' l2 l' k1 (Nw.both w1.left fun a h => w1.right a (m1 a h)) m2 s1.tr (rp.sub fun a ha => ?_) m3
        exact (List.mem_append.mp ha).elim (fun z => List.mem_append_left _ (m1 a z)) fun z => List.mem_append_right _ z
    | exc x δ' =>
      rw [hb] at hq
      simp only at hq
      cases ho : outsOf pm δ' with
      | none => rw [ho] at hq; exact hq.elim
      | some outs =>
        rw [ho] at hq
        intro c dx σ' H' L' k1 w1 s1 fx rx
        obtain ⟨l', m1, m2, m3⟩ := outs_at s1 ho hvl fx h0
        refine hq c dx H' l' k1 (fun a h => w1 a (m1 a h)) m2 s1.tr (rx.step Kp.refl (fun _ z => by cases z) fun a ha => .inl ?_) m3
        exact (List.mem_append.mp ha).elim (fun z => List.mem_append_left _ (m1 a z)) fun z => List.mem_append_right _ z
    | brk δ' => rw [hb] at hq; exact hq.elim
    | cnt δ' => rw [hb] at hq; exact hq.elim
    | bad => rw [hb] at hq; exact hq.elim
structure FDG (P : Program) (w : World) (K : PySem.W.Frag) (mg : Str → Option Value) (base : Heap) (k : Nat) (x : Str) (ps : List Str) (pm : List Nat) (φ : FV) : Prop where
  ex : ∃ f fd, mg x = some (.ref f) ∧ PySem.W.keepIn K (.ref f) = true ∧ Binds K fd ps [] ∧ FnG P w K mg base k f fd ps (spD K mg pm φ)
theorem fdG_D {x qual : Str} {params : Arguments} {st : List Stmt} {scope : Scope} {f : Addr} {fd : FuncData} {N ps : List Str} {k : Nat} {pm : List Nat} {body : SV} (Fn : FunD K x qual params st scope [] [] f fd) (hm : mg x = some (.ref f))
    (hbind : ∀ (kV doc pm : Value) (an : Option Addr) (cdv ct : Value) (us : List Value), us.length = ps.length → bindArgs (PySem.W.fnOf x qual params st scope .none kV doc pm an cdv ct) ⟨us, []⟩ = pure (ps.zip us))
    (S : FnScope N ps scope) (hl : pm.length = ps.length)
    (hbody : ∀ (cdv : Value) (A : Around) (outer : List PySem.Env) (s : Shared) (H : Hp) (E : XK), A.guards = some [] → Room k (A.deeper (envOfC qual scope s.heap.objs.size f cdv)) →
      DSs (cxOf (L2.CX P w) P w K mg base N qual scope f cdv A outer s H E) (WF E) (lentsOf 0 pm) st body) :
    FDG P w K mg base (k + 1) x ps pm (runF pm N.length body) :=
  ⟨f, fd, hm, Fn.kp, FunD.bindsN Fn hbind, okG_D Fn S hl hbody⟩
end
section
variable {X : Cx} {k : Nat} {f : Addr} {fd : FuncData} {ps : List Str} {sp : Sp} {E : St → XK} {x : Str} {p pos : Pos} {e : Expr} {es : List Expr} {t : TA}
theorem runG {pins : List (Addr × Obj)} {σ : L2.St} {H : Hp} {s : Shared} {Q : VK} {us : List Value} {vs : List V} (F : FnG X.prog X.w X.K X.mg X.base k f fd ps sp) (hgu : X.A.guards = some []) (hr : Room k X.A) (hb : Binds X.K fd ps []) (hx : PassesAt (L2.CX X.prog X.w) X σ (E σ))
    (I : Inv X pins σ H s) (r : Vals vs us) (h : sp vs H Q (E σ)) : wpAny (model X.prog X.w) X.A (call (.ref f) us) (EP X pins σ Q) X.xe s := by
  have b := hb s us I.kIn (by rw [List.append_nil, ← r.length]; exact F.nar _ _ _ _ h)
  rw [List.append_nil] at b
  have g := F.go X.A X.stack s H ⟨us, []⟩ us vs Q (E σ) hgu hr I.env0 b r h
  refine wpAny_call (codeAny_mono g fun re s' hq => ?_)
  match re, hq with
  | .error er, hq => exact hx pins H s er s' I hq
  | .ok (.ret u), hq => exact I.after hq
  | .ok .next, hq => exact False.elim hq
  | .ok .brk, hq => exact False.elim hq
  | .ok .cont, hq => exact False.elim hq
theorem pe_callG (F : FnG X.prog X.w X.K X.mg X.base k f fd ps sp) (hgu : X.A.guards = some []) (hr : Room k X.A) (hg : Gl X x) (hm : X.mg x = some (.ref f)) (hk : PySem.W.keepIn X.K (.ref f) = true) (hb : Binds X.K fd ps []) (hx : ∀ σ, PassesAt (L2.CX X.prog X.w) X σ (E σ))
    (ha : PA X (e :: es) t) (hdb : (x == ("__debug__" : Str)) = false) (he : starEach (e :: es) X.env = (false, eval e X.env) :: starEach es X.env) (hpl : (backTo pos (starEach es X.env)).any (·.1) = false) :
    PE X (.Call (.Name x p) (e :: es) [] pos) (tCallS sp E t) :=
  ⟨fun pins s σ H Q I h => wpAny_Call_Name_kw (ld_glob I hg hm
    (PySem.W.callWith_K (h₀ := X.base) I.ok.mod.kin hk (thn (ha.run pos pins s σ H _ I h) fun us s1 ⟨vs, H1, I1, r, q⟩ => ⟨I1.kIn, runG F hgu hr hb (hx σ) I1 r q⟩) he hpl) hdb)⟩
end
section
variable {X : Cx} {W : WX} {e : Expr} {es : List Expr} {ks : List (Option Nat)} {fs : DL.Env → ARes} {pm : List Nat} {φ : FV} {j k : Nat} {x : Str} {ps : List Str} {p pos : Pos}
theorem d_callG (c : FDG X.prog X.w X.K X.mg X.base k x ps pm φ) (tk : Takes X W) (hgu : X.A.guards = some []) (hr : Room j X.A) (hk : k ≤ j) (hg : Gl X x) (h : DC X W (e :: es) ks fs)
    (hdb : (x == ("__debug__" : Str)) = false := by decide) (he : starEach (e :: es) X.env = (false, eval e X.env) :: starEach es X.env := by rfl) (hpl : (backTo pos (starEach es X.env)).any (·.1) = false := by rfl) :
    DE X W (.Call (.Name x p) (e :: es) [] pos) (eCall pm ks φ fs) := by
  obtain ⟨f, fd, h1, h2, h3, h4⟩ := c.ex
  exact de_call (fun t ha => pe_callG h4 hgu (hr.mono hk) hg h1 h2 h3 (fun σ => passAt tk σ) ha hdb he hpl) h
end
section
variable {P : Program} {w : World} {K : PySem.W.Frag} {mg mb : Str → Option Value} {k : Nat} {fa a : Addr} {fd : FuncData} {x : Str} {sp : Sp} {s₁ : Shared} {vs : List Value}
abbrev oList (vs : List Value) : Obj := { cls := .type "list", data := .seq vs.toArray }
abbrev lawEnd (s₁ : Shared) : Result → Shared → Prop := fun r s' => r = .ok (.ret (.bool true)) ∧ OldK s₁.heap s'.heap ∧ s'.os = s₁.os ∧ AllBare s'.gens
theorem law_coreG {ns : List Int} {H : Hp} (KX : K.In s₁.heap) (hns : s₁.heap.Ns mainGlobals mg) (hb : s₁.heap.Ns builtinsNs mb) (hbb : ∀ x : Str, x ≠ "__name__" → mb x = bootBuiltins x) (hlim : s₁.heap.NoLimit) (hg : s₁.gens = #[])
    (ha : s₁.heap.get? a = some (oList vs)) (hr : Room k callerA)
    (F : ∀ base : Heap, K.In base → base.Ns mainGlobals mg → FnG P w K mg base k fa fd [x] sp) (hbind : ∀ (s : Shared) (u : Value), BindsTo s fd ⟨[u], []⟩ [(x, u)])
    (hsp : sp [.ref a] H (fun v _ => v = .bl true) fun _ _ _ => False) (hO : Only H) (hok : HOk P w H s₁.heap) (hA : ∀ b, H b ≠ none → b = a) (hK : H a ≠ none → K.lookup a = none) :
    codeAny (model P w) callerA (.call (.ref fa) ⟨[.ref a], []⟩) (lawEnd s₁) s₁ := by
  have atA : ∀ {b : Addr} {u : HO}, H b = some u → b = a := fun {b u} q => hA b (by rw [q]; exact fun z => by cases z)
  have nsK : ∀ {b : Addr} {m : Str → Option Value}, s₁.heap.Ns b m → (hidT s₁.heap H).Ns b m := by
    rintro b m ⟨o, es, ep, e, d, r⟩
    refine ⟨o, es, ep, hidT_get e ?_, d, r⟩
    cases q : H b with
    | none => rfl
    | some u =>
      rw [atA q, ha] at e
      rw [← Option.some.inj e] at d
      cases (show Data.seq vs.toArray _ = Data.dict es ep from d)
  have hKb : K.In (hidT s₁.heap H) := fun b o e => hidT_get (KX b o e) (by
    cases q : H b with
    | none => rfl
    | some u =>
      have eq := atA q
      rw [eq] at q e
      rw [hK (by rw [q]; exact fun z => by cases z)] at e
      cases e)
  obtain ⟨mc, c1, c2⟩ := hlim
  have hM : Mod K mg (hidT s₁.heap H) := ⟨hKb, nsK hns, ⟨mb, nsK hb, hbb⟩, ⟨mc, nsK c1, c2⟩⟩
  have nof : ∀ b : Addr, b ∈ frs ([] : List PySem.Env) → False := fun b z => List.not_mem_nil (show b ∈ ([] : List Addr) from z)
  have e0 : Env0 P w K mg (hidT s₁.heap H) callerA [] s₁ H := ⟨rfl, hM, fun _ _ e => of_hidT e, Nat.le_of_eq (hidT_size _ _), trivial, fun b z => (nof b z).elim, hok, .of_eq hg⟩
  have run := (F _ hKb (nsK hns)).go callerA [] s₁ H ⟨[.ref a], []⟩ [.ref a] [.ref a] _ _ rfl hr e0 (hbind s₁ (.ref a)) (.cons rfl .nil) hsp
  refine codeAny_mono run fun r s' h => ?_
  match r, h with
  | .error e, h => exact (CX_no h).elim
  | .ok .next, h => exact False.elim h
  | .ok .brk, h => exact False.elim h
  | .ok .cont, h => exact False.elim h
  | .ok (.ret u), ⟨v, H', os, bare, un, hok', r', q⟩ =>
    have q : v = .bl true := q
    subst q
    have r' : u = Value.bool true := r'
    subst r'
    refine ⟨rfl, OldK.of_keep fun b o e => ?_, os, bare⟩
    rcases hO b with z | ⟨ob, xs, z⟩
    · exact un.keep b o e z (fun m => (nof b m).elim) (nof b)
    · have t1 := (hok b _ z).1
      have t2 := (hok' b _ (un.frzs b ob _ z)).1
      rw [t1] at e
      rw [← Option.some.inj e]
      exact t2
theorem law_callG {ns : List Int} (KX : K.In s₁.heap) (hns : s₁.heap.Ns mainGlobals mg) (hb : s₁.heap.Ns builtinsNs mb) (hbb : ∀ x : Str, x ≠ "__name__" → mb x = bootBuiltins x) (hlim : s₁.heap.NoLimit) (hg : s₁.gens = #[])
    (ha : s₁.heap.get? a = some (oList vs)) (hi : IntsAre vs ns) (hl : ns.length ≤ sizeLine) (hr : Room k callerA)
    (F : ∀ base : Heap, K.In base → base.Ns mainGlobals mg → FnG P w K mg base k fa fd [x] sp) (hbind : ∀ (s : Shared) (u : Value), BindsTo s fd ⟨[u], []⟩ [(x, u)])
    (hsp : ∀ H : Hp, Only H → SqL K H a (ns.map V.int) → sp [.ref a] H (fun v _ => v = .bl true) fun _ _ _ => False) :
    codeAny (model P w) callerA (.call (.ref fa) ⟨[.ref a], []⟩) (lawEnd s₁) s₁ := by
  have rv := vals_ints hi
  have core := fun (H : Hp) (hO : Only H) (hS : SqL K H a (ns.map V.int)) => law_coreG (ns := ns) KX hns hb hbb hlim hg ha hr F hbind (hsp H hO hS) hO
  cases hk : K.lookup a with
  | some o =>
    obtain rfl : oList vs = o := Option.some.inj (ha.symm.trans (KX a o hk))
    have sq : SqL K (fun _ => none) a (ns.map V.int) := .inr ⟨_, vs.toArray, _, hk, rfl, rfl, rfl, by rw [List.size_toArray, hi.length]; exact hl, by simpa using rv⟩
    exact core (fun _ => none) (fun _ => .inl rfl) sq (fun b u z => by cases (show (none : Option HO) = some u from z)) (fun b z => absurd rfl z) fun z => absurd rfl z
  | none =>
    let G : Hp := fun b => if b = a then some (.frz (oList vs) (.lst (ns.map V.int))) else none
    have ga : G a = some (.frz (oList vs) (.lst (ns.map V.int))) := if_pos rfl
    have gn : ∀ {b}, b ≠ a → G b = none := fun h => if_neg h
    refine core G (fun b => ?_) (.inl (.inr ⟨oList vs, ga⟩)) (fun b u z => ?_) (fun b z => Classical.byContradiction fun n => z (gn n)) fun _ => hk
    · by_cases e : b = a
      · exact .inr ⟨_, _, e ▸ ga⟩
      · exact .inl (gn e)
    · by_cases e : b = a
      · subst e
        obtain rfl := Option.some.inj (ga.symm.trans z)
        exact ⟨ha, by rw [List.length_map]; exact hl, vs, _, rv, ha⟩
      · cases (gn e).symm.trans z
end
theorem law_walkG {l : PySem.W.OpenLaw} {n k : Nat} {q : Program} {loose : List Str} {XP : (Str → Option Value) → Heap → Prop} {YP : World → Heap → Prop} {d : DefRec} {x : Str} {φ : FV}
    (most : l.most = some n) (small : n ≤ sizeLine) (nodfl : d.params.defaults = []) (room : Room k callerA)
    (told : ∀ (w : World) (mg : Str → Option Value) (fa : Addr) (h : Heap), YP w h → h.Ns mainGlobals mg → mg d.name = some (.ref fa) →
      ∃ (K : PySem.W.Frag) (fd : FuncData), K.In h ∧ (∀ (s : Shared) (u : Value), BindsTo s fd ⟨[u], []⟩ [(x, u)]) ∧
        ∀ base : Heap, K.In base → base.Ns mainGlobals mg → FnG l.prog w K mg base k fa fd [x] (spD K mg [0] φ))
    (math : ∀ ns : List Int, ns.length ≤ n → ∃ m outs, φ [.scr ns] = .ok m (.bl true) outs) :
    PySem.W.WalkO q loose XP YP l.row.toRowW d [] (fun f vs => PySem.call f vs) := by
  refine Att.attach_call most nodfl (fun w s₀ s₁ mg mb fa o pm cd doc a vs ns G Y ho hd hcd hmg hobj hints hlen hg => ?_)
  obtain ⟨K, fd, kin, bnd, fok⟩ := told w mg fa _ Y G.T.g hmg
  obtain ⟨m, outs, hφ⟩ := math ns hlen
  exact law_callG kin G.T.g G.T.b G.T.builtins G.T.nolimit hg hobj hints (Nat.le_trans hlen small) room fok bnd
    (fun H only seq => law_end only seq hφ)
end DL
namespace DL
open PySem PySem.Spec L2
open PyProof.Rows hiding St
def D.at1 (d : D) (c : Nat) (p : List Nat) : Option D := match d with
  | .lst ds => (match ds[c]? with
    | some e => e.at p
    | none => none)
  | _ => none
def D.put1 (d : D) (c : Nat) (p : List Nat) (x : D) : D := match d with
  | .lst ds => (match ds[c]? with
    | some e => .lst (ds.set c (e.put p x))
    | none => .lst ds)
  | d => d
def Path1 (K : PySem.W.Frag) (H : Hp) (v : V) (c : Nat) (p : List Nat) (w : V) : Prop := ∃ b us u, v = .ref b ∧ H b = some (.lst us) ∧ us[c]? = some u ∧ PathV K H u p w
section
variable {K : PySem.W.Frag} {H : Hp} {N : As}
theorem SR.mutF {σ : L2.St} {δ : Env} {L R lt : As} {j m mm : Nat} {d : D} {PT : V → V → Prop} {pt : D → D} {ds : List D} (s : SR K σ H δ L (lt ++ R)) (e : δ[j]? = some (some (mm, d)))
    (focus : ∀ (N : As) (v : V) (l : As), Rp K H N mm d v l → ∃ v' l1 l2, PT v v' ∧ l.Perm (l1 ++ l2) ∧ Rp K H N (m + 1) (.lst ds) v' l1 ∧
      ∀ (H' : Hp) (N' X : As) (e : D) (l1' : As), Kp H H' X → (∀ a ∈ X, a ∈ N) → Nw H N N' → (∀ a ∈ l2, a ∉ X) → Rp K H' N' (m + 1) e v' l1' → ∃ l', l'.Perm (l1' ++ l2) ∧ Rp K H' N' mm (pt e) v l') :
    ∃ v a vs l' L2, σ[j]? = some (some v) ∧ PT v (.ref a) ∧ H a = some (.lst vs) ∧ L.Perm ((a :: l') ++ L2) ∧ Rps K H (L ++ (lt ++ R)) m ds vs l' ∧
      ∀ ds' vs' l'' rest, (l'' ++ rest).Perm (l' ++ lt) → Rps K H (L ++ (lt ++ R)) m ds' vs' l'' →
        SR K σ (upd H a (.lst vs')) (δ.set j (some (mm, pt (.lst ds')))) ((a :: l'') ++ L2) R := by
  obtain ⟨v, l, L1, h1, h2, h3, h4⟩ := s.get e
  obtain ⟨v', l1, l2, g1, g2, g3, g4⟩ := focus _ _ _ h3
  simp only [Rp] at g3
  obtain ⟨a, vs, l', rfl, hA, rfl, hr⟩ := g3
  have pL : L.Perm ((a :: l') ++ (l2 ++ L1)) := h2.trans (by rw [← List.append_assoc]; exact List.Perm.append_right L1 g2)
  refine ⟨v, a, vs, l', l2 ++ L1, h1, g1, hA, pL, hr, fun ds' vs' l'' rest hp hr' => ?_⟩
  -- apart
  have nd : ((a :: l') ++ (l2 ++ L1) ++ (lt ++ R)).Nodup := (List.Perm.append_right (lt ++ R) pL).nodup_iff.mp s.nd
  have aN : a ∈ L ++ (lt ++ R) := List.mem_append_left _ (pL.mem_iff.mpr (by simp))
  have own_a : IsOwn H a := .inl ⟨_, hA⟩
  have k : Kp H (upd H a (.lst vs')) [a] := ⟨fun b o q n => by rw [upd_ne (by simpa using n)]; exact q, fun b hb => (List.mem_singleton.mp hb) ▸ own_a⟩
  have nda : a ∉ l' ∧ a ∉ l2 ∧ a ∉ L1 ∧ a ∉ lt ∧ a ∉ R := by
    have nd' : (a :: (l' ++ (l2 ++ L1) ++ (lt ++ R))).Nodup := nd
    have := (List.nodup_cons.mp nd').1
    simp only [List.mem_append, not_or] at this
    exact ⟨this.1.1, this.1.2.1, this.1.2.2, this.2.1, this.2.2⟩
  have al'' : a ∉ l'' := fun z => by
    have : a ∈ l' ++ lt := hp.mem_iff.mp (List.mem_append_left _ z)
    exact (List.mem_append.mp this).elim nda.1 nda.2.2.2.1
  have mem_l'' : ∀ b ∈ l'', b ∈ l' ∨ b ∈ lt := fun b hb => List.mem_append.mp (hp.mem_iff.mp (List.mem_append_left _ hb))
  have N2 : ∀ b ∈ ((a :: l'') ++ (l2 ++ L1)) ++ R, b ∈ L ++ (lt ++ R) := fun b hb => by
    rcases List.mem_append.mp hb with hb | hb
    · rcases List.mem_append.mp hb with hb | hb
      · rcases List.mem_cons.mp hb with rfl | hb
        · exact aN
        · rcases mem_l'' b hb with q | q
          · exact List.mem_append_left _ (pL.mem_iff.mpr (by simp [q]))
          · exact List.mem_append_right _ (List.mem_append_left _ q)
      · exact List.mem_append_left _ (pL.mem_iff.mpr (List.mem_append_right _ hb))
    · exact List.mem_append_right _ (List.mem_append_right _ hb)
  have w : Nw H (L ++ (lt ++ R)) (((a :: l'') ++ (l2 ++ L1)) ++ R) := fun b hb => .inl (N2 b hb)
  have new : Rp K (upd H a (.lst vs')) (((a :: l'') ++ (l2 ++ L1)) ++ R) (m + 1) (.lst ds') (.ref a) (a :: l'') := by
    simp only [Rp]
    exact ⟨a, vs', l'', rfl, upd_same, rfl, hr'.step k (fun b hb => (List.mem_singleton.mp hb) ▸ aN) w fun b hb z => by
      have : b = a := by simpa using z
      subst this; exact al'' hb⟩
  obtain ⟨ln, q1, q2⟩ := g4 _ _ [a] _ _ k (fun b hb => (List.mem_singleton.mp hb) ▸ aN) w (fun b hb z => by
    have : b = a := by simpa using z
    subst this; exact nda.2.1 hb) new
  -- the sets
  have pAll : (L1 ++ (ln ++ R)).Perm ((a :: l'') ++ (l2 ++ L1) ++ R) := by
    have : (L1 ++ ln).Perm ((a :: l'') ++ (l2 ++ L1)) := (List.Perm.append_left L1 q1).trans (by
      refine List.perm_append_comm.trans ?_
      rw [List.append_assoc])
    rw [← List.append_assoc]
    exact List.Perm.append_right R this
  have ndN : ((a :: l'') ++ (l2 ++ L1) ++ R).Nodup := by
    have b1 : ((a :: (l'' ++ rest)) ++ (l2 ++ L1) ++ R).Nodup := by
      have : ((a :: (l'' ++ rest)) ++ (l2 ++ L1) ++ R).Perm ((a :: l') ++ (l2 ++ L1) ++ (lt ++ R)) := by
        show (a :: (l'' ++ rest ++ (l2 ++ L1) ++ R)).Perm (a :: (l' ++ (l2 ++ L1) ++ (lt ++ R)))
        refine List.Perm.cons a ?_
        refine (List.Perm.append_right R (List.Perm.append_right (l2 ++ L1) hp)).trans ?_
        simp only [List.append_assoc]
        refine List.Perm.append_left l' ?_
        rw [← List.append_assoc, ← List.append_assoc, ← List.append_assoc l2 L1 (lt ++ R), ← List.append_assoc (l2 ++ L1) lt R]
        refine List.Perm.append_right R ?_
        rw [List.append_assoc]
        exact List.perm_append_comm
      exact this.nodup_iff.mpr nd
    refine b1.sublist (List.Sublist.append (List.Sublist.append (List.Sublist.cons_cons a (List.sublist_append_left _ _)) (List.Sublist.refl _)) (List.Sublist.refl _))
  have io : ∀ {b}, IsOwn H b → IsOwn (upd H a (.lst vs')) b := fun {b} q => by
    by_cases z : b = a
    · subst z; exact .inl ⟨_, upd_same⟩
    · rcases q with ⟨x, q⟩ | ⟨x, q⟩
      · exact .inl ⟨x, by rw [upd_ne z]; exact q⟩
      · exact .inr ⟨x, by rw [upd_ne z]; exact q⟩
  have ownAll : ∀ b ∈ L ++ (lt ++ R), IsOwn H b := fun b hb => (List.mem_append.mp hb).elim (s.own b) (s.tr b)
  have hrest : SR K σ (upd H a (.lst vs')) (δ.set j none) L1 (ln ++ R) := by
    refine h4.step k (fun b hb => ?_) (pAll.nodup_iff.mpr ndN) (fun b hb => .inl ?_) fun b hb => io (ownAll b ?_)
    · have : b = a := by simpa using hb
      subst this
      exact List.mem_append_left _ (g2.mem_iff.mpr (by simp))
    · have : b ∈ L ++ (lt ++ R) := N2 b (pAll.mem_iff.mp (List.mem_append_right _ hb))
      rcases List.mem_append.mp this with q | q
      · rcases List.mem_append.mp (h2.mem_iff.mp q) with q | q
        · exact List.mem_append_left _ q
        · -- b in L1: it can't be, apart
          exfalso
          have nd2 := pAll.nodup_iff.mpr ndN
          exact (List.nodup_append.mp nd2).2.2 b q b hb rfl
      · exact List.mem_append_right _ q
    · exact N2 b (pAll.mem_iff.mp (List.mem_append_right _ hb))
  have fin := hrest.put (i := j) (m := mm) (d := pt (.lst ds')) (v := v) (by
    have : j < δ.length := (List.getElem?_eq_some_iff.mp e).1
    simp [this]) (q2.sub fun b hb => pAll.mem_iff.mp hb)
  rw [List.set_set, set_same h1] at fin
  refine fin.perm ?_ (List.Perm.refl _)
  exact (List.Perm.append_right L1 q1).trans (by rw [List.append_assoc])
theorem Rp.path1 {m c : Nat} {p : List Nat} {d : D} {v : V} {l : As} {d' : D} (h : Rp K H N (m + 2) d v l) (e : d.at1 c p = some d') :
    ∃ v' l1 l2, Path1 K H v c p v' ∧ l.Perm (l1 ++ l2) ∧ Rp K H N (m + 1) d' v' l1 ∧
      ∀ (H' : Hp) (N' X : As) (e : D) (l1' : As), Kp H H' X → (∀ a ∈ X, a ∈ N) → Nw H N N' → (∀ a ∈ l2, a ∉ X) → Rp K H' N' (m + 1) e v' l1' → ∃ l', l'.Perm (l1' ++ l2) ∧ Rp K H' N' (m + 2) (d.put1 c p e) v l' := by
  unfold D.at1 at e
  split at e
  · rename_i ds
    split at e
    · rename_i e0 he0
      simp only [Rp] at h
      obtain ⟨a, vs, l', rfl, hA, rfl, hr⟩ := h
      obtain ⟨u, l1, l2, h1, h2, h3, h4⟩ := hr.split he0
      obtain ⟨w, k1, k2, g1, g2, g3, g4⟩ := Rp.path h3 e
      refine ⟨w, k1, a :: (k2 ++ l2), ⟨a, vs, u, rfl, hA, h1, g1⟩, ?_, g3, fun H' N' X e l1' k hX w n rr => ?_⟩
      · refine (List.Perm.cons a (h2.trans (List.Perm.append_right l2 g2))).trans ?_
        rw [List.append_assoc]
        exact List.perm_middle.symm
      · obtain ⟨lq, q1, q2⟩ := g4 H' N' X e l1' k hX w (fun b hb => n b (List.mem_cons_of_mem _ (List.mem_append_left _ hb))) rr
        obtain ⟨lr, s1, s2⟩ := h4 H' N' X _ u lq k hX w (fun b hb => n b (List.mem_cons_of_mem _ (List.mem_append_right _ hb))) q2
        rw [set_same h1] at s2
        refine ⟨a :: lr, ?_, ?_⟩
        · refine (List.Perm.cons a (s1.trans (List.Perm.append_right l2 q1))).trans ?_
          rw [List.append_assoc]
          exact List.perm_middle.symm
        · have e3 : D.put1 (.lst ds) c p e = .lst (ds.set c (e0.put p e)) := by
            show (match ds[c]? with | some e1 => D.lst (ds.set c (e1.put p e)) | none => .lst ds) = _
            rw [he0]
          rw [e3]
          simp only [Rp]
          exact ⟨a, vs, lr, rfl, k.kp _ _ hA (n a List.mem_cons_self), rfl, s2⟩
    · cases e
  · cases e
theorem SR.mut1 {σ : L2.St} {δ : Env} {L R lt : As} {j m c : Nat} {d : D} {p : List Nat} {ds : List D} (s : SR K σ H δ L (lt ++ R)) (e : δ[j]? = some (some (m + 2, d))) (ea : d.at1 c p = some (.lst ds)) :
    ∃ v a vs l' L2, σ[j]? = some (some v) ∧ Path1 K H v c p (.ref a) ∧ H a = some (.lst vs) ∧ L.Perm ((a :: l') ++ L2) ∧ Rps K H (L ++ (lt ++ R)) m ds vs l' ∧
      ∀ ds' vs' l'' rest, (l'' ++ rest).Perm (l' ++ lt) → Rps K H (L ++ (lt ++ R)) m ds' vs' l'' →
        SR K σ (upd H a (.lst vs')) (δ.set j (some (m + 2, d.put1 c p (.lst ds')))) ((a :: l'') ++ L2) R :=
  SR.mutF (PT := fun v w => Path1 K H v c p w) (pt := fun x => d.put1 c p x) s e fun N v l h => h.path1 ea
end
theorem Path1.uniq {K : PySem.W.Frag} {H : Hp} {v w u : V} {c : Nat} {p : List Nat} (h : Path1 K H v c p w) (h' : Path1 K H v c p u) : w = u := by
  obtain ⟨b, us, x, rfl, e1, e2, e3⟩ := h
  obtain ⟨b', us', x', e0, f1, f2, f3⟩ := h'
  cases e0
  rw [e1] at f1
  cases f1
  rw [e2] at f2
  cases f2
  exact PathV.uniq e3 f3
def sStore1 (j c : Nat) (p : List Nat) (i : Int) (f : EV) : SV := fun δ => match f δ with
  | .ok m d δ1 => (match δ1[j]? with
    | some (some (k + 2, d1)) => (match d1.at1 c p with
      | some (.lst ds) => (match ixN ds.length i with
        | some n => if joinM k m d = true then .nx (δ1.set j (some (k + 2, d1.put1 c p (.lst (ds.set n d))))) else .bad
        | none => .bad)
      | _ => .bad)
    | _ => .bad)
  | .exc x δ' => .exc x δ'
  | .bad => .bad
structure IxC (X : Cx) (e : Expr) (i : Int) : Prop where
  ex : ∃ t, PE X e t ∧ ∀ σ H (Q : VK), Q (.int i) H → t σ H Q
structure DP1 (X : Cx) (o : Expr) (j c : Nat) (p : List Nat) : Prop where
  ex : ∃ t, PE X o t ∧ ∀ σ H v w (Q : VK), σ[j]? = some (some v) → Path1 X.K H v c p w → Q w H → t σ H Q
section
variable {X : Cx} {W : WX} {F : List Nat} {o e i : Expr} {fe fi : EV} {j c : Nat} {p : List Nat} {pos : Pos}
theorem ixc_int {k : Int} (h : PE X e (tC (.int k))) : IxC X e k := ⟨_, h, fun _ _ _ q => q⟩
theorem dp1_ix {k : Nat} (h : PE X o (tVar j)) (hi : PE X i (tC (.int (k : Int)))) (hs : PlainIx i) : DP1 X (.Subscript o i pos) j k [] := by
  refine ⟨_, pe_ix ix_list h hi hs, fun σ H v w Q hv hp q => ?_⟩
  obtain ⟨b, us, u, rfl, h1, h2, h3⟩ := hp
  have e : u = w := h3
  subst e
  exact ⟨_, hv, b, us, (k : Int), u, rfl, rfl, SqL.of h1, atI_nat' h2, q⟩
theorem dp1_tup {k : Nat} (h : DP1 X o j c p) (hi : PE X i (tC (.int (k : Int)))) (hs : PlainIx i) : DP1 X (.Subscript o i pos) j c (p ++ [k]) := by
  obtain ⟨t, pt, q⟩ := h.ex
  refine ⟨_, pe_ix ix_tup pt hi hs, fun σ H v w Q hv hp hq => ?_⟩
  obtain ⟨b, us, u, rfl, h1, h2, h3⟩ := hp
  have split : ∀ {p : List Nat} {v w : V}, PathV X.K H v (p ++ [k]) w → ∃ u, PathV X.K H v p u ∧ ∃ a vs, u = .ref a ∧ H a = some (.tup vs) ∧ vs[k]? = some w := by
    intro p
    induction p with
    | nil =>
      intro v w h
      obtain ⟨a, vs, x, rfl, e1, e2, e3⟩ := h
      exact ⟨_, rfl, a, vs, rfl, e1, by rw [e2]; exact congrArg some e3⟩
    | cons n p ih =>
      intro v w h
      obtain ⟨a, vs, x, rfl, e1, e2, e3⟩ := h
      obtain ⟨u, h1, h2⟩ := ih e3
      exact ⟨u, ⟨a, vs, x, rfl, e1, e2, h1⟩, h2⟩
  obtain ⟨y, h4, a, vs, rfl, h5, h6⟩ := split h3
  exact q σ H _ (.ref a) _ hv ⟨b, us, u, rfl, h1, h2, h4⟩ ⟨a, vs, (k : Int), w, rfl, rfl, SqT.of h5, atI_nat' h6, hq⟩
theorem ds_store1 {spos : Pos} {ii : Int} (mk : ∀ to ti te, PE X o to → PE X i ti → PE X e te → PS X (.Assign [.Subscript o i spos] e pos) (tAsg te (L2.gSub to ti rSetL))) (ho : DP1 X o j c p) (hi : IxC X i ii) (he : DE X W e fe) :
    DS X W F (.Assign [.Subscript o i spos] e pos) (sStore1 j c p ii fe) := by
  obtain ⟨to, po, qo⟩ := ho.ex
  obtain ⟨ti, pi, qi⟩ := hi.ex
  obtain ⟨te, pe, qe⟩ := he.ex
  refine ⟨_, mk to ti te po pi pe, fun σ H δ L R D s ok => ?_⟩
  refine qe σ H δ L R _ s ?_
  unfold sStore1 at ok
  cases hf : fe δ with
  | bad => rw [hf] at ok; exact ok
  | exc x δ' => rw [hf] at ok; exact XOk.st ok
  | ok m d δ1 =>
    rw [hf] at ok
    simp only at ok
    intro u H1 l L1 k w s1 rp
    split at ok
    · rename_i kk d0 hd0
      split at ok
      · rename_i ds0 ha0
        obtain ⟨v, a, vs0, _, _, g1, g2, g3, _⟩ := SR.mut1 (lt := []) s1 hd0 ha0
        refine qo σ H1 v (.ref a) _ g1 g2 (qi σ H1 _ ?_)
        split at ok
        · rename_i n hn
          split at ok
          · rename_i hc
            have hz : ∀ x ∈ l, x ∉ L1 ++ R := (fz_at s1).1
            obtain ⟨l1, hl1, r1⟩ := join_of (B := L1 ++ R) rp hc hz (fun x => mem3.trans or_comm)
            have sub1 : l1.Sublist l := by rcases hl1 with rfl | rfl; exact List.nil_sublist _; exact List.Sublist.refl _
            have s2' : SR X.K σ H1 δ1 L1 (l1 ++ R) := s1.less (List.Sublist.append sub1 (List.Sublist.refl _))
            obtain ⟨v', a', vs, l', L3, f1, f2, f3, f4, f5, f6⟩ := SR.mut1 s2' hd0 ha0
            rw [g1] at f1; cases f1
            have := Path1.uniq g2 f2
            cases this
            refine ⟨a, vs, ii, n, rfl, rfl, f3, by rw [← f5.len]; exact hn, ?_⟩
            have r2 : Rp X.K H1 (L1 ++ (l1 ++ R)) kk d u l1 := r1.sub fun x hx => List.mem_append.mpr ((mem3.mp hx).symm)
            obtain ⟨lq, rest, p1, p2⟩ := Rps.setAt n f5 r2 (ixN_lt hn)
            have s3 := f6 _ _ lq rest p1 p2
            have al : a ∈ L1 := f4.mem_iff.mpr (by simp)
            refine ok σ _ _ (kp_mut k w.right al) (fun x hx => ?_) s3 Fix.refl
            rcases List.mem_append.mp hx with hx | hx
            · rcases List.mem_cons.mp hx with rfl | hx
              · exact w.right _ al
              · have : x ∈ l' ++ l1 := p1.mem_iff.mp (List.mem_append_left _ hx)
                rcases List.mem_append.mp this with hx | hx
                · exact w.right x (f4.mem_iff.mpr (by simp [hx]))
                · exact w.left x (sub1.subset hx)
            · exact w.right x (f4.mem_iff.mpr (List.mem_append_right _ hx))
          · exact ok.elim
        · exact ok.elim
      · exact ok.elim
    · exact ok.elim
end
def sRev1 (j c : Nat) (p : List Nat) : SV := fun δ => match δ[j]? with
  | some (some (k + 2, d1)) => (match d1.at1 c p with
    | some (.lst ds) => .nx (δ.set j (some (k + 2, d1.put1 c p (.lst ds.reverse))))
    | _ => .bad)
  | _ => .bad
section
variable {X : Cx} {W : WX} {F : List Nat} {e o : Expr} {fe : EV} {j c : Nat} {p : List Nat} {pos apos cpos : Pos}
theorem ds_reverse1 (mk : ∀ to, PE X o to → PS X (.Expr (.Call (.Attribute o "reverse" apos) [] [] cpos) pos) (tDrop (tBM0 X.K "list" rReverse to))) (ho : DP1 X o j c p) :
    DS X W F (.Expr (.Call (.Attribute o "reverse" apos) [] [] cpos) pos) (sRev1 j c p) := by
  obtain ⟨to, po, qo⟩ := ho.ex
  refine ⟨_, mk to po, fun σ H δ L R D s ok => ?_⟩
  unfold sRev1 at ok
  split at ok
  · rename_i kk d0 hd0
    split at ok
    · rename_i ds0 ha0
      obtain ⟨v, a, vs, l', L2, f1, f2, f3, f4, f5, f6⟩ := SR.mut1 (lt := []) s hd0 ha0
      refine qo σ H v (.ref a) _ f1 f2 ⟨.inl ⟨rfl, vs, SqL.of f3⟩, ?_⟩
      refine ⟨a, vs, rfl, rfl, f3, ?_⟩
      obtain ⟨l2, q1, q2⟩ := f5.rev
      have s3 := f6 ds0.reverse vs.reverse l2 [] (by simpa using q1) q2
      have al : a ∈ L := f4.mem_iff.mpr (by simp)
      refine ok σ _ _ (kp_mut s.kp Nw.refl al) (fun x hx => ?_) s3 Fix.refl
      rcases List.mem_append.mp hx with hx | hx
      · rcases List.mem_cons.mp hx with rfl | hx
        · exact .inl al
        · exact .inl (f4.mem_iff.mpr (by simp [q1.mem_iff.mp hx]))
      · exact .inl (f4.mem_iff.mpr (List.mem_append_right _ hx))
    · exact ok.elim
  · exact ok.elim
theorem d_reverse1 (ho : DP1 X o j c p) (hbase : attributeBase o "reverse" X.env (eval o X.env) = eval o X.env := by rfl)
    (hline : (apos.endLine == cpos.line) = true := by rfl)
    (hsw : swapsWith (.Call (.Attribute o "reverse" apos) [] [] cpos) none pos.line X.env = pure false := by rfl) :
    DS X W F (.Expr (.Call (.Attribute o "reverse" apos) [] [] cpos) pos) (sRev1 j c p) :=
  ds_reverse1 (fun to ho => ps_expr (pe_bm0 PySem.F.plainAttrs_list PySem.F.slot_list_reverse PySem.F.type_list_reverse mt_reverse ho (hbase := hbase) (hline := hline)) hsw) ho
theorem ixc_neg {k : Int} {q0 : Pos} {i0 : Expr} (h : PE X i0 (tC (.int k))) : IxC X (.UnaryOp .USub i0 q0) (-k) := ⟨_, pe_un un_neg h, fun _ _ _ q => ⟨k, rfl, q⟩⟩
theorem d_store1 {spos : Pos} {i : Expr} {ii : Int} (ho : DP1 X o j c p) (hi : IxC X i ii) (he : DE X W e fe) (hs : swapsWithSole [.Subscript o i spos] e pos.line X.env = pure false := by rfl) (hw : swappedStores [.Subscript o i spos] e X.env = pure none := by rfl)
    (h1 : (assignEach [.Subscript o i spos] X.env).map (·.2) = [assign (.Subscript o i spos) X.env] := by rfl) (ha : ∀ v, assign (.Subscript o i spos) X.env v = (do
      let ov ← holding [v] (eval o X.env)
      let iv ← holding [v, ov] (eval i X.env)
      standAt spos
      holding [v, ov, iv] (setItem ov iv v)
      release [v, ov, iv] []) := by intro _; rfl) :
    DS X W F (.Assign [.Subscript o i spos] e pos) (sStore1 j c p ii fe) :=
  ds_store1 (fun to ti te ho hi he => ps_asg he (pg_sub ho hi set_list ha) hs hw h1) ho hi he
variable {δ δ' : DL.Env} {m n k : Nat} {d : D} {ii : Int} {x : XD} {ds : List D}
def sto1O2 (o : Option Nat) (ds : List D) (δ2 : DL.Env) (j k c : Nat) (p : List Nat) (d1 : D) (m : Nat) (d : D) : SRes := match o with
  | some n => if joinM k m d = true then .nx (put δ2 j (some (k + 2, d1.put1 c p (.lst (ds.set n d))))) else .bad
  | none => .bad
def sto1O1 (o : Option D) (i : Int) (δ2 : DL.Env) (j k c : Nat) (p : List Nat) (d1 : D) (m : Nat) (d : D) : SRes := match o with
  | some (.lst ds) => sto1O2 (ixN ds.length i) ds δ2 j k c p d1 m d
  | _ => .bad
def sto1O (o : Option (Nat × D)) (i : Int) (j c : Nat) (p : List Nat) (m : Nat) (d : D) (δ2 : DL.Env) : SRes := match o with
  | some (k + 2, d1) => sto1O1 (d1.at1 c p) i δ2 j k c p d1 m d
  | _ => .bad
def Res.ksto1 (r : Res) (j c : Nat) (p : List Nat) (i : Int) : SRes := match r with
  | .ok m d δ1 => sto1O (look δ1 j) i j c p m d δ1
  | .exc x δ' => .exc x δ'
  | .bad => .bad
theorem sStore1_k : sStore1 j c p ii fe δ = (fe δ).ksto1 j c p ii := by
  unfold sStore1
  cases fe δ with
  | bad => rfl
  | exc x δ' => rfl
  | ok m d δ1 =>
    simp only [Res.ksto1, look_eq]
    rcases h1 : δ1[j]? with _ | (_ | ⟨_ | _ | k, d0⟩) <;> try rfl
    simp only [Option.join_some, sto1O]
    rcases h2 : d0.at1 c p with _ | d'
    · rfl
    · cases d' <;> try rfl
      simp only [sto1O1, sto1O2, put_eq]
      try rfl
theorem ksto1_ok : (Res.ok m d δ).ksto1 j c p ii = sto1O (look δ j) ii j c p m d δ := Eq.trans rfl rfl
theorem sto1O_k {e : D} : sto1O (some (k + 2, e)) ii j c p m d δ = sto1O1 (e.at1 c p) ii δ j k c p e m d := Eq.trans rfl rfl
theorem sto1O1_k {e : D} : sto1O1 (some (.lst ds)) ii δ j k c p e m d = sto1O2 (ixN ds.length ii) ds δ j k c p e m d := Eq.trans rfl rfl
theorem sto1O2_k {e : D} (h : joinM k m d = true) : sto1O2 (some n) ds δ j k c p e m d = .nx (put δ j (some (k + 2, e.put1 c p (.lst (ds.set n d))))) := if_pos h
def at1O (o : Option D) (p : List Nat) : Option D := match o with
  | some e => e.at p
  | none => none
theorem at1_k : D.at1 (.lst ds) c p = at1O ds[c]? p := by
  show (match ds[c]? with
    | some e => e.at p
    | none => none) = _
  unfold at1O
  cases ds[c]? <;> rfl
theorem at1O_k {e : D} : at1O (some e) p = e.at p := Eq.trans rfl rfl
def put1O (o : Option D) (ds : List D) (c : Nat) (p : List Nat) (x : D) : D := match o with
  | some e => .lst (ds.set c (e.put p x))
  | none => .lst ds
theorem put1_k {x : D} : D.put1 (.lst ds) c p x = put1O ds[c]? ds c p x := by
  show (match ds[c]? with
    | some e => D.lst (ds.set c (e.put p x))
    | none => .lst ds) = _
  unfold put1O
  cases ds[c]? <;> rfl
theorem put1O_k {e x : D} : put1O (some e) ds c p x = .lst (ds.set c (e.put p x)) := Eq.trans rfl rfl
def rev1L (o : Option D) (k j c : Nat) (p : List Nat) (d1 : D) (δ : DL.Env) : SRes := match o with
  | some (.lst ds) => .nx (put δ j (some (k + 2, d1.put1 c p (.lst ds.reverse))))
  | _ => .bad
def rev1LO (o : Option (Nat × D)) (j c : Nat) (p : List Nat) (δ : DL.Env) : SRes := match o with
  | some (k + 2, d1) => rev1L (d1.at1 c p) k j c p d1 δ
  | _ => .bad
theorem sRev1_k : sRev1 j c p δ = rev1LO (look δ j) j c p δ := by
  unfold sRev1
  rw [look_eq]
  rcases h1 : δ[j]? with _ | (_ | ⟨_ | _ | k, d0⟩) <;> try rfl
  simp only [Option.join_some, rev1LO]
  rcases h2 : d0.at1 c p with _ | d'
  · rfl
  · cases d' <;> try rfl
    simp only [rev1L, put_eq]
theorem rev1LO_k {e : D} : rev1LO (some (k + 2, e)) j c p δ = rev1L (e.at1 c p) k j c p e δ := Eq.trans rfl rfl
theorem rev1L_k {e : D} : rev1L (some (.lst ds)) k j c p e δ = .nx (put δ j (some (k + 2, e.put1 c p (.lst ds.reverse)))) := Eq.trans rfl rfl
end
end DL
namespace DL
open PySem PySem.Spec L2
open PyProof.Rows hiding St
def gListR2 : D → D → Option (Nat × D)
  | .int i, .int j => if inW i ∧ inW j ∧ j - i ≤ 16777216 then some (1, .lst (rangeD i (j - i).toNat)) else none
  | _, _ => none
theorem opf_listR2 {K : PySem.W.Frag} : OpF2 K (fun x y H Q => ∃ i j, x = .int i ∧ y = .int j ∧ RgOk i j ∧ ∀ q, H q = none → Q (.ref q) (upd H q (.lst (rgV i j)))) gListR2 := by
  intro H B d v e u Q h1 h2 ok
  unfold gListR2 at ok
  split at ok
  · split at ok
    · rename_i i j hc
      obtain ⟨z1, z2⟩ := inW_of hc.1
      obtain ⟨z3, z4⟩ := inW_of hc.2.1
      have z5 := hc.2.2
      rw [h1.int, h2.int]
      refine ⟨_, _, rfl, rfl, ⟨by omega, by omega, by omega, by omega, by omega⟩, fun q hq => ?_⟩
      have r := rps_range (K := K) (H := H) (N := B) i (j - i).toNat
      exact ok.lst r q hq
    · exact ok.elim
  · exact ok.elim
theorem d_listR2 {X : Cx} {W : WX} {e e2 : Expr} {f f2 : EV} {p pos p2 pos2 : Pos} (hc : X.calm = true) (hm : X.mg "list" = none) (hg : Gl X "list") (hr : X.mg "range" = none) (hgr : Gl X "range") (h : DE X W e f) (h2 : DE X W e2 f2)
    (na : starEach [e, e2] X.env = (false, eval e X.env) :: starEach [e2] X.env := by rfl) (nb : starEach [e2] X.env = (false, eval e2 X.env) :: starEach [] X.env := by rfl) (hp : (backTo pos2 (starEach [e2] X.env)).any (·.1) = false := by rfl)
    (na2 : starEach [.Call (.Name "range" p2) [e, e2] [] pos2] X.env = (false, eval (.Call (.Name "range" p2) [e, e2] [] pos2) X.env) :: starEach [] X.env := by rfl) :
    DE X W (.Call (.Name "list" p) [.Call (.Name "range" p2) [e, e2] [] pos2] [] pos) (DL.e2 gListR2 f f2) :=
  de_2 (fun t t2 ht ht2 => pe_listRg hc hg hm (prg_2 hgr hr ht ht2 na nb hp) na2) opf_listR2 h h2
theorem gListR2_b {i j : Int} (h : -(2 ^ 62) ≤ i ∧ i < 2 ^ 62) (h1 : -(2 ^ 62) ≤ j ∧ j < 2 ^ 62) (h2 : j - i ≤ 16777216) : gListR2 (.int i) (.int j) = some (1, .lst (rangeD i (j - i).toNat)) := if_pos ⟨inW_i h.1 h.2, inW_i h1.1 h1.2, h2⟩
end DL
namespace DL
open PySem PySem.Spec L2
open PyProof.Rows hiding St
structure DV (X : Cx) (e : Expr) (f : Env → Option D) : Prop where
  ex : ∃ t, PE X e t ∧ ∀ σ H δ L R d, SR X.K σ H δ L R → f δ = some d → ∃ v, (∀ (H' : Hp) (Q : V → Hp → Prop), Q v H' → t σ H' Q) ∧ Rp X.K H (L ++ R) 0 d v []
def vVar (i : Nat) : Env → Option D := fun δ => match δ[i]? with
  | some (some (0, d)) => some d
  | _ => none
def vC (d : D) : Env → Option D := fun _ => some d
def vals : List (Key × (Env → Option D)) → Env → Option (List D)
  | [], _ => some []
  | p :: r, δ => match p.2 δ, vals r δ with
    | some d, some ds => some (d :: ds)
    | _, _ => none
section
variable {X : Cx} {W : WX} {e k v : Expr} {i : Nat} {pos : Pos} {ks : List (Option Expr)} {vs : List Expr} {es : List (Key × (Env → Option D))} {f : Env → Option D} {key : Key} {d : D} {x : V}
theorem dv_var (h : PE X e (tVar i)) : DV X e (vVar i) := by
  refine ⟨tVar i, h, fun σ H δ L R d s hf => ?_⟩
  unfold vVar at hf
  split at hf
  · rename_i d' hd
    cases hf
    obtain ⟨v, l, L2, h1, h2, h3, h4⟩ := s.get hd
    have := h3.zero; subst this
    exact ⟨v, fun H' Q q => ⟨v, h1, q⟩, h3⟩
  · cases hf
theorem dv_c (h : PE X e (tC x)) (hd : ∀ H N, Rp X.K H N 0 d x []) : DV X e (vC d) :=
  ⟨tC x, h, fun σ H δ L R d' s hf => by cases hf; exact ⟨x, fun H' Q q => q, hd _ _⟩⟩
structure DPs (X : Cx) (pos : Pos) (ks : List (Option Expr)) (vs : List Expr) (es : List (Key × (Env → Option D))) : Prop where
  ex : ∃ trs, PPs X pos ks vs trs ∧ ks.all (·.isSome) = true ∧ ks.length = vs.length ∧ ks.length = es.length ∧ ∀ σ H δ L R ds, SR X.K σ H δ L R → vals es δ = some ds →
    ∃ ys : List V, ys.length = es.length ∧ ds.length = es.length ∧ Rps X.K H (L ++ R) 0 ds ys [] ∧ ∀ (H' : Hp) (Q : List (V × V) → Hp → Prop), Q (((es.map (·.1)).zip ys).map fun kv => (kV kv.1, kv.2)) H' → tPairs trs σ H' Q
theorem dps_nil : DPs X pos [] [] [] := ⟨[], pps_nil, rfl, rfl, rfl, fun σ H δ L R ds s hv => by
  cases hv
  exact ⟨[], rfl, rfl, by simp [Rps], fun H' Q q => q⟩⟩
theorem dps_cons (hk : PE X k (tC (kV key))) (hv : DV X v f) (hr : DPs X pos ks vs es) : DPs X pos (some k :: ks) (v :: vs) ((key, f) :: es) := by
  obtain ⟨t, p1, q1⟩ := hv.ex
  obtain ⟨trs, p2, a1, a2, a3, q2⟩ := hr.ex
  refine ⟨(tC (kV key), t) :: trs, pps_cons hk p1 p2, by simp [a1], by simp [a2], by simp [a3], fun σ H δ L R ds s hd => ?_⟩
  unfold vals at hd
  split at hd
  · rename_i d' ds' h1 h2
    cases hd
    obtain ⟨y, ty, r1⟩ := q1 σ H δ L R d' s h1
    obtain ⟨ys, l1, l2, r2, tp⟩ := q2 σ H δ L R ds' s h2
    refine ⟨y :: ys, by simp [l1], by simp [l2], ?_, fun H' Q q => ?_⟩
    · simp only [Rps]
      exact ⟨y, ys, [], [], rfl, rfl, r1, r2⟩
    · show t σ H' fun y H2 => tPairs trs σ H2 fun ps H3 => Q ((kV key, y) :: ps) H3
      exact ty _ _ (tp _ _ q)
  · cases hd
end
theorem mergeK_nd : ∀ (more acc : List (Key × V)), ((acc ++ more).map (·.1)).Nodup → mergeK acc more = acc ++ more
  | [], acc, _ => by simp [mergeK]
  | p :: r, acc, h => by
    have hn : (acc.any fun kv => decide (kv.1 = p.1)) = false := by
      rw [List.any_eq_false]
      intro kv hkv
      rw [List.map_append, List.map_cons, List.nodup_append] at h
      have := h.2.2 kv.1 (List.mem_map.mpr ⟨kv, hkv, rfl⟩) p.1 List.mem_cons_self
      simpa using this
    have e : putK acc p.1 p.2 = acc ++ [p] := by
      unfold putK
      rw [hn]
      rfl
    show mergeK (putK acc p.1 p.2) r = _
    rw [e, mergeK_nd r (acc ++ [p]) (by simpa using h)]
    simp
def eDsp (es : List (Key × (Env → Option D))) : EV := fun δ => match vals es δ with
  | some ds => .ok 1 (.dct (es.map (·.1)) ds) δ
  | none => .bad
theorem de_dsp {X : Cx} {W : WX} {pos : Pos} {ks : List (Option Expr)} {vs : List Expr} {es : List (Key × (Env → Option D))} (h : DPs X pos ks vs es) (h0 : es.isEmpty = false) (h15 : es.length ≤ 15) (hn : (es.map (·.1)).Nodup) : DE X W (.Dict ks vs pos) (eDsp es) := by
  obtain ⟨trs, pp, ha, hl, hle, q⟩ := h.ex
  refine ⟨tDisp trs, pe_disp pp ha hl (fun z => by subst z; cases es with | nil => cases h0 | cons _ _ => simp at hle) (by omega), fun σ H δ L R Q s ok p hp => ?_⟩
  unfold eDsp at ok
  cases hv : vals es δ with
  | none => rw [hv] at ok; exact ok.elim
  | some ds =>
    rw [hv] at ok
    obtain ⟨ys, yl, dl, r, tp⟩ := q σ H δ L R ds s hv
    have hz : ((es.map (·.1)).zip ys).length ≤ 15 := by rw [List.length_zip, List.length_map]; omega
    have hm : (((es.map (·.1)).zip ys).map (·.1)).Nodup := by
      rw [List.map_fst_zip (by rw [List.length_map]; omega)]
      exact hn
    refine tp _ _ ⟨upd_same, (es.map (·.1)).zip ys, rfl, hz, ?_⟩
    rw [upd_upd, mergeK_nd _ [] (by rw [List.nil_append]; exact hm), List.nil_append]
    have io : ∀ {a}, IsOwn H a → IsOwn (upd H p (.dK ((es.map (·.1)).zip ys))) a := fun {a} q => q.imp (fun ⟨x, e⟩ => ⟨x, upd_ext hp _ _ e⟩) fun ⟨x, e⟩ => ⟨x, upd_ext hp _ _ e⟩
    have pn : p ∉ L ++ R := fun z => (((List.mem_append.mp z).elim (s.own p) (s.tr p)) : IsOwn H p).ne hp
    have s3 : SR X.K σ (upd H p (.dK ((es.map (·.1)).zip ys))) δ L ([p] ++ R) := s.step (kp_upd hp) (fun _ z => by cases z) ((List.perm_middle (l₁ := L) (l₂ := R) (a := p)).nodup_iff.mpr (List.nodup_cons.mpr ⟨pn, s.nd⟩)) (fun a ha => by
      rcases List.mem_cons.mp ha with rfl | ha
      · exact .inr hp
      · exact .inl ha) fun a ha => by
      rcases List.mem_cons.mp ha with rfl | ha
      · exact .inr ⟨_, upd_same⟩
      · exact io (s.tr a ha)
    refine ok (.ref p) _ [p] L ⟨fun a o e _ => upd_ext hp _ _ e, s.own⟩ (Nw.both (fun a ha => .inr (by rw [List.mem_singleton.mp ha]; exact hp)) Nw.refl) s3 ?_
    simp only [Rp]
    refine ⟨p, ys, [], rfl, by rw [List.length_map, yl], upd_same, rfl, r.step (kp_upd hp) (fun _ z => by cases z) (fun a ha => ?_) fun _ z => by cases z⟩
    rcases List.mem_append.mp ha with ha | ha
    · exact .inl (List.mem_append_left _ ha)
    · rcases List.mem_cons.mp ha with rfl | ha
      · exact .inr hp
      · exact .inl (List.mem_append_right _ ha)
def lk0 : Option (Nat × D) → Option D
  | some (0, d) => some d
  | _ => none
def kdsp (ks : List Key) (δ : Env) : Option (List D) → Res
  | some ds => .ok 1 (.dct ks ds) δ
  | none => .bad
def consV : Option D → Option (List D) → Option (List D)
  | some d, some ds => some (d :: ds)
  | _, _ => none
theorem eDsp_k {es : List (Key × (Env → Option D))} {δ : Env} : eDsp es δ = kdsp (es.map (·.1)) δ (vals es δ) := by
  unfold eDsp kdsp
  cases vals es δ <;> rfl
theorem kdsp_ok {ks : List Key} {δ : Env} {ds : List D} : kdsp ks δ (some ds) = .ok 1 (.dct ks ds) δ := Eq.trans rfl rfl
theorem vals_nil {δ : Env} : vals [] δ = some [] := Eq.trans rfl rfl
theorem vals_cons {p : Key × (Env → Option D)} {r : List (Key × (Env → Option D))} {δ : Env} : vals (p :: r) δ = consV (p.2 δ) (vals r δ) := by
  show (match p.2 δ, vals r δ with | some d, some ds => some (d :: ds) | _, _ => none) = _
  cases p.2 δ <;> cases vals r δ <;> rfl
theorem consV_ok {d : D} {ds : List D} : consV (some d) (some ds) = some (d :: ds) := Eq.trans rfl rfl
theorem vC_k {d : D} {δ : Env} : vC d δ = some d := Eq.trans rfl rfl
theorem vVar_k {i : Nat} {δ : Env} : vVar i δ = lk0 (look δ i) := by
  unfold vVar lk0
  rw [look_eq]
  rcases h : δ[i]? with _ | (_ | ⟨_ | m, d⟩) <;> rfl
theorem lk0_ok {d : D} : lk0 (some (0, d)) = some d := Eq.trans rfl rfl
end DL
namespace DL
open PySem PySem.Spec L2
open PyProof.Rows hiding St
mutual
inductive DpE (K : PySem.W.Frag) (H : Hp) : V → PyData → Prop
  | non : DpE K H .non .none
  | bl (b : Bool) : DpE K H (.bl b) (.bool b)
  | int (i : Int) : DpE K H (.int i) (.int i)
  | str (x : Str) : DpE K H (.str x) (.str x)
  | lst {a : Addr} {xs : List V} {ds : List PyData} : SqL K H a xs → DpEs K H xs ds → DpE K H (.ref a) (.list ds)
  | tup {a : Addr} {xs : List V} {ds : List PyData} : SqT K H a xs → DpEs K H xs ds → DpE K H (.ref a) (.tuple ds)
  | em {a : Addr} : H a = some (.dK []) → DpE K H (.ref a) (.dict [])
inductive DpEs (K : PySem.W.Frag) (H : Hp) : List V → List PyData → Prop
  | nil : DpEs K H [] []
  | cons {v : V} {vs : List V} {d : PyData} {ds : List PyData} : DpE K H v d → DpEs K H vs ds → DpEs K H (v :: vs) (d :: ds)
end
section
variable {X : Cx} {pins : List (Addr × Obj)} {σ : St} {H : Hp} {s : Shared}
theorem em_reads (I : Inv X pins σ H s) {a : Addr} (e : H a = some (.dK [])) : (a == sysModules) = false ∧ ∃ (o : Obj) (es : Array DictEntry) (n : Nat), s.heap.get? a = some o ∧ o.ExactDict ∧ o.data = .dict es n ∧ es.toList = [] := by
  obtain ⟨_, hs, vs, kv, o, es, ep, ho, hx, hd, _, hp, _⟩ := dk_of I.hok e
  cases kv
  have hes : es.toList = [] := by
    generalize es.toList = l at hp
    cases hp
    rfl
  exact ⟨hs, o, es, ep, ho, hx, hd, hes⟩
mutual
theorem dpe_reads (I : Inv X pins σ H s) : ∀ {v : V} {d : PyData} {u : Value}, DpE X.K H v d → RelV v u → ∃ as, Reads s.heap u d as
  | _, _, _, .non, r => by cases r; exact ⟨_, Reads.none⟩
  | _, _, _, .bl b, r => by cases r; exact ⟨_, Reads.bool b⟩
  | _, _, _, .int i, r => by obtain ⟨t, rfl⟩ := r; exact ⟨_, Reads.int i t⟩
  | _, _, _, .str x, r => by obtain ⟨t, rfl⟩ := r; exact ⟨_, Reads.str x t⟩
  | _, _, _, .lst hs ha, r => by
    cases r
    obtain ⟨its, rv, ⟨o, n, ho, hc, _, hd⟩, _⟩ := I.list hs
    obtain ⟨as, hr⟩ := dpes_reads I ha rv
    exact ⟨_, Reads.list ho hc hd hr⟩
  | _, _, _, .tup hs ha, r => by
    cases r
    obtain ⟨its, rv, ⟨o, ho, hc, n, hd⟩, _⟩ := I.tuple hs
    obtain ⟨as, hr⟩ := dpes_reads I ha rv
    exact ⟨_, Reads.tuple ho hc hd hr⟩
  | _, _, _, .em e, r => by
    cases r
    obtain ⟨_, o, es, n, ho, hx, hd, hes⟩ := em_reads I e
    exact ⟨_, Reads.dict (kvs := []) ho hx.1 hd (as := []) (bs := []) (by rw [hes]; exact .nil) (by rw [hes]; exact .nil)⟩
theorem dpes_reads (I : Inv X pins σ H s) : ∀ {vs : List V} {ds : List PyData} {us : List Value}, DpEs X.K H vs ds → Vals vs us → ∃ as, ReadsAll s.heap us ds as
  | _, _, _, .nil, .nil => ⟨_, ReadsAll.nil⟩
  | _, _, _, .cons h hs, .cons r rs => by
    obtain ⟨as, q1⟩ := dpe_reads I h r
    obtain ⟨bs, q2⟩ := dpes_reads I hs rs
    exact ⟨_, .cons q1 q2⟩
end
mutual
theorem dpe_repr (I : Inv X pins σ H s) : ∀ {v : V} {d : PyData} {u : Value}, DpE X.K H v d → RelV v u → d.showable = true → d.shown.length ≤ sizeLine → ∃ bs, ReadAtMost s.heap d.depth bs ∧ ReprK X.prog X.w bs s.heap d.depth u d.shown
  | _, _, _, .non, r, _, _ => by cases r; exact ⟨[], (fun _ h => nomatch h), by simp only [PyData.shown]; exact .of_is ReprIs.none _ _ _⟩
  | _, _, _, .bl b, r, _, _ => by cases r; exact ⟨[], (fun _ h => nomatch h), by simp only [PyData.shown]; exact .of_is (ReprIs.bool b) _ _ _⟩
  | _, _, _, .int i, r, hs, _ => by obtain ⟨t, rfl⟩ := r; exact ⟨[], (fun _ h => nomatch h), by simp only [PyData.shown]; exact .of_is (ReprIs.int t (by simpa [PyData.showable] using hs)) _ _ _⟩
  | _, _, _, .str x, r, _, hz => by obtain ⟨t, rfl⟩ := r; exact ⟨[], (fun _ h => nomatch h), by simp only [PyData.shown]; exact .of_is (ReprIs.str x t (by simpa only [PyData.shown] using hz)) _ _ _⟩
  | _, _, _, .lst (a := a) (ds := ds) hq ha, r, hs, hz => by
    cases r
    obtain ⟨its, rv, ⟨o, n, h1, h2, _, h3⟩, _⟩ := I.list hq
    obtain ⟨as, h4⟩ := dpes_reads I ha rv
    have hz' : (listText (PyData.shownAll ds)).length ≤ sizeLine := by simpa only [PyData.shown] using hz
    obtain ⟨bs, hb, hk⟩ := dpes_repr I ha rv (by simpa [PyData.showable] using hs) (fun t ht => Nat.le_trans (listText_mem_le ht) hz')
    have rr : Reads s.heap (.ref a) (.list ds) _ := .list h1 h2 h3 h4
    have hna : a ∉ bs := not_mem_of_deeper rr (by simp only [PyData.depth]; omega) hb
    refine ⟨a :: bs, ReadAtMost.cons rr (by simp only [PyData.depth]; omega) hb, ?_⟩
    simp only [PyData.depth, PyData.shown]
    cases its with
    | nil =>
      have h4' : ReadsAll s.heap [] ds _ := h4
      cases h4'
      simp only [PyData.shownAll, listText_nil]
      exact ReprK.listEmpty h1 h2 h3
    | cons x l => exact ReprK.list h1 h2 h3 hna (by simpa using hk.length_eq) (fun i y e => hk.item i y (by simpa using e))
  | _, _, _, .tup (a := a) (ds := ds) hq ha, r, hs, hz => by
    cases r
    obtain ⟨its, rv, ⟨o, h1, h2, n, h3⟩, _⟩ := I.tuple hq
    obtain ⟨as, h4⟩ := dpes_reads I ha rv
    have hz' : (tupleText (PyData.shownAll ds)).length ≤ sizeLine := by simpa only [PyData.shown] using hz
    obtain ⟨bs, hb, hk⟩ := dpes_repr I ha rv (by simpa [PyData.showable] using hs) (fun t ht => Nat.le_trans (tupleText_mem_le ht) hz')
    have rr : Reads s.heap (.ref a) (.tuple ds) _ := .tuple h1 h2 h3 h4
    have hna : a ∉ bs := not_mem_of_deeper rr (by simp only [PyData.depth]; omega) hb
    refine ⟨a :: bs, ReadAtMost.cons rr (by simp only [PyData.depth]; omega) hb, ?_⟩
    simp only [PyData.depth, PyData.shown]
    exact ReprK.tuple h1 h2 h3 hna hk
  | _, _, _, .em e, r, hs, hz => by
    cases r
    obtain ⟨hsy, o, es, n, ho, hx, hd, hes⟩ := em_reads I e
    exact ReprK.of_reads (prog := X.prog) (w := X.w) (Reads.dict (kvs := []) ho hx.1 hd (as := []) (bs := []) (by rw [hes]; exact .nil) (by rw [hes]; exact .nil)) hs (fun _ hm => by
      simp only [List.append_nil, List.mem_singleton] at hm
      rw [← hm] at hsy
      simp at hsy) hz
theorem dpes_repr (I : Inv X pins σ H s) : ∀ {vs : List V} {ds : List PyData} {us : List Value}, DpEs X.K H vs ds → Vals vs us → PyData.showableAll ds = true → (∀ t ∈ PyData.shownAll ds, t.length ≤ sizeLine) →
    ∃ bs, ReadAtMost s.heap (PyData.depthAll ds) bs ∧ ReprAllK X.prog X.w bs s.heap (PyData.depthAll ds) us (PyData.shownAll ds)
  | _, _, _, .nil, .nil, _, _ => ⟨[], (fun _ h => nomatch h), by simp only [PyData.shownAll]; exact .nil⟩
  | _, _, _, .cons (d := d) (ds := ds) h hs, .cons r rs, sw, hz => by
    have sw' : d.showable = true ∧ PyData.showableAll ds = true := by simpa [PyData.showableAll] using sw
    obtain ⟨b1, hb1, k1⟩ := dpe_repr I h r sw'.1 (hz _ (by simp only [PyData.shownAll]; exact List.mem_cons_self ..))
    obtain ⟨b2, hb2, k2⟩ := dpes_repr I hs rs sw'.2 (fun t ht => hz t (by simp only [PyData.shownAll]; exact List.mem_cons_of_mem _ ht))
    refine ⟨b1 ++ b2, ?_, ?_⟩
    · intro b hm
      simp only [PyData.depthAll]
      rcases List.mem_append.mp hm with hm | hm
      · obtain ⟨d', as', r', hd'⟩ := hb1 b hm
        exact ⟨d', as', r', Nat.le_trans hd' (Nat.le_max_left _ _)⟩
      · obtain ⟨d', as', r', hd'⟩ := hb2 b hm
        exact ⟨d', as', r', Nat.le_trans hd' (Nat.le_max_right _ _)⟩
    · simp only [PyData.depthAll, PyData.shownAll]
      exact .cons ((k1.more fun b hb => List.mem_append_left _ hb).level_le (Nat.le_max_left _ _)) (k2.more_le (fun b hb => List.mem_append_right _ hb) (Nat.le_max_right _ _))
end
end
def rReprE (K : PySem.W.Frag) : List V → Hp → VK → Prop := fun xs H Q => ∃ a ds vs, xs = [.ref a] ∧ DpEs K H vs ds ∧ PyData.showableAll ds = true ∧ PyData.depthAll ds ≤ 100 ∧
  ((SqT K H a vs ∧ (PyData.shown (.tuple ds)).length ≤ sizeLine ∧ Q (.str (PyData.shown (.tuple ds))) H) ∨ (SqL K H a vs ∧ (PyData.shown (.list ds)).length ≤ sizeLine ∧ Q (.str (PyData.shown (.list ds))) H))
theorem call_reprE {X : Cx} (hg : X.A.guards = some []) (hu : X.A.units + 128 < cLine) : CallR X (.builtin "repr") (rReprE X.K) := by
  intro pins s σ H xs us Q I r h
  obtain ⟨a, ds, vs, rfl, hi, sw, hdp, h⟩ := h
  cases r with
  | cons ru rn =>
    rename_i u us'
    cases rn
    cases ru
    rcases h with ⟨hs, hl, q⟩ | ⟨hs, hl, q⟩
    · obtain ⟨its, rv, ⟨o, h1, h2, n, h3⟩, _⟩ := I.tuple hs
      have hz' : (tupleText (PyData.shownAll ds)).length ≤ sizeLine := by simpa only [PyData.shown] using hl
      obtain ⟨as, h4⟩ := dpes_reads I hi rv
      obtain ⟨bs, hb, hk⟩ := dpes_repr I hi rv sw (fun t ht => Nat.le_trans (tupleText_mem_le ht) hz')
      have hna : a ∉ bs := not_mem_of_deeper (.tuple h1 h2 h3 h4) (by simp only [PyData.depth]; omega) hb
      have S : ShowsBy X.prog X.w s.heap a (.tuple ds) "tuple" "tuple.__repr__" := ⟨F.slot_tuple_repr, F.slot_tuple_str, F.slot_tuple_format, fun s' hk0 => ⟨o, hk0 _ _ h1, h2⟩, fun A E s' Q' hg' hu' hk0 hQ => by
        simp only [PyData.depth] at hu'
        simp only [PyData.shown] at hQ
        exact call_tuple_reprK h1 h2 h3 hna hk hg' (fun b _ => Clear.nil b) hu' hk0 hQ hz'⟩
      exact call_repr_slot (by omega) (S.typeIs s (fun _ _ e => e)) S.slotRepr (S.call X.A.in1 _ s _ hg (by show X.A.units + 1 + (PyData.depthAll ds + 1) < cLine; omega) (fun _ _ e => e) fun h' tu tk k => ⟨_, _, rfl, ⟨.str _, H, I.kept k, ⟨tu, rfl⟩, q⟩⟩)
    · obtain ⟨its, rv, ⟨o, n, h1, h2, _, h3⟩, _⟩ := I.list hs
      have hz' : (listText (PyData.shownAll ds)).length ≤ sizeLine := by simpa only [PyData.shown] using hl
      obtain ⟨as, h4⟩ := dpes_reads I hi rv
      obtain ⟨bs, hb, hk⟩ := dpes_repr I hi rv sw (fun t ht => Nat.le_trans (listText_mem_le ht) hz')
      have hna : a ∉ bs := not_mem_of_deeper (.list h1 h2 h3 h4) (by simp only [PyData.depth]; omega) hb
      have S : ShowsBy X.prog X.w s.heap a (.list ds) "list" "list.__repr__" := ⟨F.slot_list_repr.toG, F.slot_list_str, F.slot_list_format, fun s' hk0 => ⟨o, hk0 _ _ h1, h2⟩, fun A E s' Q' hg' hu' hk0 hQ => by
        simp only [PyData.depth] at hu'
        simp only [PyData.shown] at hQ
        cases its with
        | nil =>
          have h4' : ReadsAll s.heap [] ds _ := h4
          cases h4'
          simp only [PyData.shownAll, listText_nil] at hQ
          exact call_list_repr_empty ⟨o, hk0 _ _ h1, h2⟩ (hk0 _ _ h1) h3 (hQ s'.heap _ _ fun _ _ e => e)
        | cons x l =>
          exact call_list_reprK h1 h2 h3 hna (by simpa using hk.length_eq) (fun i y e => hk.item i y (by simpa using e)) hg' (fun b _ => Clear.nil b) hu' hk0 hQ hz'⟩
      exact call_repr_slot (by omega) (S.typeIs s (fun _ _ e => e)) S.slotRepr (S.call X.A.in1 _ s _ hg (by show X.A.units + 1 + (PyData.depthAll ds + 1) < cLine; omega) (fun _ _ e => e) fun h' tu tk k => ⟨_, _, rfl, ⟨.str _, H, I.kept k, ⟨tu, rfl⟩, q⟩⟩)
mutual
def D.can : D → Bool
  | .dct [] [] => true
  | .dct _ _ => false
  | .exn _ _ _ => false
  | .lst xs => D.cans xs
  | .tup xs => D.cans xs
  | _ => true
def D.cans : List D → Bool
  | [] => true
  | x :: xs => D.can x && D.cans xs
end
def gReprE : List D → Option (Nat × D)
  | [.tup ds] => if D.cans ds && PyData.showableAll (D.pys ds) && decide ((PyData.shown (.tuple (D.pys ds))).length ≤ sizeLine) && decide (PyData.depthAll (D.pys ds) ≤ 100) then some (0, .str (PyData.shown (.tuple (D.pys ds)))) else none
  | [.lst ds] => if D.cans ds && PyData.showableAll (D.pys ds) && decide ((PyData.shown (.list (D.pys ds))).length ≤ sizeLine) && decide (PyData.depthAll (D.pys ds) ≤ 100) then some (0, .str (PyData.shown (.list (D.pys ds)))) else none
  | _ => none
section
variable {K : PySem.W.Frag} {H : Hp} {N : As}
theorem dpEs_ints : ∀ ns : List Int, DpEs K H (ns.map V.int) (ns.map .int)
  | [] => .nil
  | n :: ns => .cons (.int n) (dpEs_ints ns)
mutual
theorem Rp.dpe : ∀ {d : D} {v : V}, Rp K H N 0 d v [] → d.can = true → DpE K H v d.py
  | .non, v, h, _ => by simp only [Rp] at h; rw [h.1]; exact .non
  | .bl b, v, h, _ => by simp only [Rp] at h; rw [h.1]; exact .bl b
  | .int i, v, h, _ => by simp only [Rp] at h; rw [h.1]; exact .int i
  | .str i, v, h, _ => by simp only [Rp] at h; rw [h.1]; exact .str i
  | .scr ns, v, h, _ => by
    simp only [Rp] at h; obtain ⟨a, e, s, _⟩ := h; rw [e]
    exact .lst s.sq (dpEs_ints ns)
  | .tup ds, v, h, c => by
    simp only [Rp] at h; obtain ⟨a, vs, e, s, r⟩ := h; rw [e]
    exact .tup s (Rps.dpe r (by simpa [D.can] using c))
  | .lst ds, v, h, c => by
    simp only [Rp] at h; obtain ⟨a, vs, e, s, _, r⟩ := h; rw [e]
    exact .lst (.inl (.inl s.1)) (Rps.dpe r (by simpa [D.can] using c))
  | .dct [] [], v, h, c => by
    simp only [Rp] at h; obtain ⟨a, vs, e, _, s, _, r⟩ := h; rw [e]
    exact .em s.1
  | .dct (_ :: _) _, v, h, c => by simp [D.can] at c
  | .dct [] (_ :: _), v, h, c => by simp [D.can] at c
  | .exn _ _ _, v, h, c => by simp [D.can] at c
theorem Rps.dpe : ∀ {ds : List D} {vs : List V}, Rps K H N 0 ds vs [] → D.cans ds = true → DpEs K H vs (D.pys ds)
  | [], vs, h, _ => by
    simp only [Rps] at h
    rw [h.1]
    exact .nil
  | d :: ds, vs, h, ok => by
    simp only [Rps] at h
    obtain ⟨v, vr, l1, l2, rfl, el, r1, r2⟩ := h
    have e1 : l1 = [] := (List.append_eq_nil_iff.mp el.symm).1
    have e2 : l2 = [] := (List.append_eq_nil_iff.mp el.symm).2
    subst e1 e2
    simp only [D.cans, Bool.and_eq_true] at ok
    exact .cons (Rp.dpe r1 ok.1) (Rps.dpe r2 ok.2)
end
end
theorem opf_reprE {K : PySem.W.Frag} : OpFN K (rReprE K) gReprE := by
  intro H B ds vs Q h ok
  unfold gReprE at ok
  split at ok
  · rename_i ds'
    split at ok
    · rename_i hc
      simp only [Bool.and_eq_true, decide_eq_true_eq] at hc
      obtain ⟨v, rfl, r⟩ := h.one
      simp only [Rp] at r
      obtain ⟨a, ws, rfl, ht, hr⟩ := r
      exact ⟨a, D.pys ds', ws, rfl, hr.dpe hc.1.1.1, hc.1.1.2, hc.2, .inl ⟨ht.sq, hc.1.2, ok.str⟩⟩
    · exact ok.elim
  · rename_i ds'
    split at ok
    · rename_i hc
      simp only [Bool.and_eq_true, decide_eq_true_eq] at hc
      obtain ⟨v, rfl, r⟩ := h.one
      simp only [Rp] at r
      obtain ⟨a, ws, rfl, ht, _, hr⟩ := r
      exact ⟨a, D.pys ds', ws, rfl, hr.dpe hc.1.1.1, hc.1.1.2, hc.2, .inr ⟨.inl (.inl ht.1), hc.1.2, ok.str⟩⟩
    · exact ok.elim
  · exact ok.elim
section
variable {X : Cx} {W : WX} {e : Expr} {es : List Expr} {fs : DL.Env → ARes} {p pos : Pos}
theorem d_reprE (hgu : X.A.guards = some []) (hu : X.A.units + 128 < cLine) (hm : X.mg "repr" = none) (hg : Gl X "repr") (h : DA X W (e :: es) fs) (he : starEach (e :: es) X.env = (false, eval e X.env) :: starEach es X.env := by rfl) (hpl : (backTo pos (starEach es X.env)).any (·.1) = false := by rfl) :
    DE X W (.Call (.Name "repr" p) (e :: es) [] pos) (eN gReprE fs) := de_n (fun t ha => pe_callB (call_reprE hgu hu) hg hm (by decide +kernel) ha (he := he) (hpl := hpl)) opf_reprE h
end
mutual
theorem can_of : ∀ {d : D}, d.py.canLay0 = true → d.can = true
  | .non, _ => rfl
  | .bl _, _ => rfl
  | .int _, _ => rfl
  | .str _, _ => rfl
  | .scr _, _ => rfl
  | .tup ds, h => by
    simp only [D.can]
    exact cans_of (by simpa [D.py, PyData.canLay0] using h)
  | .lst ds, h => by
    simp only [D.can]
    exact cans_of (by simpa [D.py, PyData.canLay0] using h)
  | .dct _ _, h => by simp [D.py, PyData.canLay0] at h
  | .exn _ _ _, h => by simp [D.py, PyData.canLay0] at h
theorem cans_of : ∀ {ds : List D}, PyData.canLayAll0 (D.pys ds) = true → D.cans ds = true
  | [], _ => rfl
  | d :: ds, h => by
    simp only [D.pys, PyData.canLayAll0, Bool.and_eq_true] at h
    simp only [D.cans, can_of h.1, cans_of h.2, Bool.and_self]
end
end DL
namespace PySem.SeqAt
open AutoSeq1 (wpAny_loadPart')
open MeetsSeq
structure EmD (h : Heap) (a : Addr) : Prop where
  ex : ∃ (es : Array DictEntry) (n : Nat), h.get? a = some { cls := .type "dict", data := .dict es n } ∧ es.toList = []
  ns : (a == sysModules) = false
section
variable {prog : Program} {w : World} {A : Around} {E : Value → Shared → Prop} {s : Shared}
theorem EmD.ty {a : Addr} (x : EmD s.heap a) : s.TypeIs (.ref a) "dict" := by
  obtain ⟨es, n, ho, _⟩ := x.ex
  exact ⟨_, ho, rfl⟩
theorem dict_eq_dec {a : Addr} {b : Value} {Tb : String} (ha : s.TypeIs (.ref a) "dict") (hb : s.TypeIs b Tb) (hsub : isSubtype (.type Tb) (.type "dict") = pure false) (Q : Value → Shared → Prop) (hq : Q .notImplemented s) :
    wpAny (model prog w) A (call (.builtin "dict.__eq__") [.ref a, b]) Q E s := by
  refine wpAny_call_entry PySem.F.slot_dict_eq ha PySem.F.entry_dict_eq ?_ (PySem.F.args_dict_eq_2 _ _)
  show wpAny _ _ (Builtin.Dict.dictSlotArgs "__eq__" ⟨[.ref a, b], []⟩ >>= _) _ _ s
  refine wpAny_bind ?_
  unfold Builtin.Dict.dictSlotArgs
  refine wpAny_bind (wpAny_notOrdered_dict ha ?_)
  show wpAny _ _ (pure (Value.ref a, b)) _ _ s
  refine wpAny_pure ?_
  refine wpAny_bind (wpAny_isInstance (T := Tb) hb hsub ?_)
  simp only [Bool.not_false, if_true]
  refine wpAny_bind (wpAny_rule ?_)
  exact wpAny_pure ⟨_, rfl, hq⟩
theorem list_eq_dec_dict (l b : Addr) (items : Array Value) (n : Nat) (dd : Option Addr) (sl : Array (Option Value)) (es : Array DictEntry) (n2 : Nat) :
    Meets (Builtin.«list.__eq__» ⟨[.ref l, .ref b], []⟩) (fun _ R s => s.heap.get? l = some { cls := .type "list", dict := dd, data := .seq items n, slots := sl } ∧ s.heap.get? b = some { cls := .type "dict", data := .dict es n2 } ∧ R (.ok (.ret .notImplemented)) s) :=
  .of_wp fun prog w A R s h => by obtain ⟨hp, g, d, tk, os⟩ := s; obtain ⟨hl, hb, h⟩ := h; have f1 := F.sub_dict_list; wp_walk using wpAny_loadPart' hl, wpAny_loadPart' hb; exact ⟨_, rfl, h⟩
theorem tuple_eq_dec_dict (l b : Addr) (items : Array Value) (n : Nat) (dd : Option Addr) (sl : Array (Option Value)) (es : Array DictEntry) (n2 : Nat) :
    Meets (Builtin.«tuple.__eq__» ⟨[.ref l, .ref b], []⟩) (fun _ R s => s.heap.get? l = some { cls := .type "tuple", dict := dd, data := .seq items n, slots := sl } ∧ s.heap.get? b = some { cls := .type "dict", data := .dict es n2 } ∧ R (.ok (.ret .notImplemented)) s) :=
  .of_wp fun prog w A R s h => by obtain ⟨hp, g, d, tk, os⟩ := s; obtain ⟨hl, hb, h⟩ := h; have f1 := F.sub_dict_tuple; wp_walk using wpAny_loadPart' hl, wpAny_loadPart' hb; exact ⟨_, rfl, h⟩
theorem bool_eq_dec_dict (b : Bool) (l : Addr) (es : Array DictEntry) (n2 : Nat) :
    Meets (Builtin.«int.__eq__» ⟨[.bool b, .ref l], []⟩) (fun _ R s => s.heap.get? l = some { cls := .type "dict", data := .dict es n2 } ∧ R (.ok (.ret .notImplemented)) s) :=
  .of_wp fun prog w A R s h => by obtain ⟨hp, g, d, tk, os⟩ := s; obtain ⟨hl, h⟩ := h; wp_walk using wpAny_loadPart' hl, wpAny_load hl; exact ⟨_, rfl, h⟩
theorem int_eq_dec_dict (b : Int) (u : Tok) (l : Addr) (es : Array DictEntry) (n2 : Nat) :
    Meets (Builtin.«int.__eq__» ⟨[.int b u, .ref l], []⟩) (fun _ R s => s.heap.get? l = some { cls := .type "dict", data := .dict es n2 } ∧ R (.ok (.ret .notImplemented)) s) :=
  .of_wp fun prog w A R s h => by obtain ⟨hp, g, d, tk, os⟩ := s; obtain ⟨hl, h⟩ := h; wp_walk using wpAny_loadPart' hl, wpAny_load hl; exact ⟨_, rfl, h⟩
theorem str_eq_dec_dict (b : Str) (u : Tok) (l : Addr) (es : Array DictEntry) (n2 : Nat) :
    Meets (Builtin.«str.__eq__» ⟨[.str b u, .ref l], []⟩) (fun _ R s => s.heap.get? l = some { cls := .type "dict", data := .dict es n2 } ∧ R (.ok (.ret .notImplemented)) s) :=
  .of_wp fun prog w A R s h => by obtain ⟨hp, g, d, tk, os⟩ := s; obtain ⟨hl, h⟩ := h; wp_walk using wpAny_loadPart' hl, wpAny_load hl; exact ⟨_, rfl, h⟩
theorem RcAt.none_em {l : Addr} (x : EmD s.heap l) (hu : A.units < cLine) : RcAt A s (.none) (.ref l) false := fun prog w E Q h => by
  have ht := x.ty
  obtain ⟨es, n, ho, _⟩ := x.ex
  exact rc_eq_decline_or (k := false) rfl ht (by decide) F.sub_dict_NoneType F.slot_NoneType_eq F.slot_dict_eq_refl
    (fun _ hq => (call_gives F.slot_NoneType_eq rfl F.entry_NoneType_eq (F.args_NoneType_eq_2 _ _) (NoneType___eq___none_ref_0 l) hq))
    (fun _ hq => dict_eq_dec (b := .none) (Tb := "NoneType") ht rfl F.sub_NoneType_dict _ hq)
    (fun _ hq => wpAny_of_eq (rfl : isSame (.none) (.ref l) = pure false) hq) (.inr hu) h
theorem RcAt.em_none {l : Addr} (x : EmD s.heap l) (hu : A.units < cLine) : RcAt A s (.ref l) (.none) false := fun prog w E Q h => by
  have ht := x.ty
  obtain ⟨es, n, ho, _⟩ := x.ex
  exact rc_eq_decline_or (k := false) ht rfl (by decide) F.sub_NoneType_dict F.slot_dict_eq F.slot_NoneType_eq_refl
    (fun _ hq => dict_eq_dec (b := .none) (Tb := "NoneType") ht rfl F.sub_NoneType_dict _ hq)
    (fun _ hq => (call_gives F.slot_NoneType_eq_refl rfl F.entry_NoneType_eq (F.args_NoneType_eq_2 _ _) (NoneType___eq___none_ref_0 l) hq))
    (fun _ hq => wpAny_of_eq (rfl : isSame (.ref l) (.none) = pure false) hq) (.inr hu) h
theorem EqAt.none_em {l : Addr} (x : EmD s.heap l) (hu : A.units < cLine) : EqAt A s (.none) (.ref l) false := fun prog w E Q h => by
  unfold eqBool
  refine wpAny_holding ?_
  refine wpAny_ite_split (fun hab => absurd (eq_of_beq hab) nofun) (fun _ => ?_)
  exact wpAny_bind (RcAt.none_em x hu prog w E _ (wpAny_truthy_bool h))
theorem EqAt.em_none {l : Addr} (x : EmD s.heap l) (hu : A.units < cLine) : EqAt A s (.ref l) (.none) false := fun prog w E Q h => by
  unfold eqBool
  refine wpAny_holding ?_
  refine wpAny_ite_split (fun hab => absurd (eq_of_beq hab) nofun) (fun _ => ?_)
  exact wpAny_bind (RcAt.em_none x hu prog w E _ (wpAny_truthy_bool h))
theorem RcAt.bool_em (b : Bool) {l : Addr} (x : EmD s.heap l) (hu : A.units < cLine) : RcAt A s (.bool b) (.ref l) false := fun prog w E Q h => by
  have ht := x.ty
  obtain ⟨es, n, ho, _⟩ := x.ex
  exact rc_eq_decline_or (k := false) rfl ht (by decide) F.sub_dict_bool F.slot_bool_eq F.slot_dict_eq_refl
    (fun _ hq => (call_meets F.slot_bool_eq rfl F.entry_int_eq (F.args_int_eq_2 _ _) (bool_eq_dec_dict b l es n) ⟨ho, hq⟩))
    (fun _ hq => dict_eq_dec (b := .bool b) (Tb := "bool") ht rfl F.sub_bool_dict _ hq)
    (fun _ hq => wpAny_of_eq (rfl : isSame (.bool b) (.ref l) = pure false) hq) (.inr hu) h
theorem RcAt.em_bool (b : Bool) {l : Addr} (x : EmD s.heap l) (hu : A.units < cLine) : RcAt A s (.ref l) (.bool b) false := fun prog w E Q h => by
  have ht := x.ty
  obtain ⟨es, n, ho, _⟩ := x.ex
  exact rc_eq_decline_or (k := false) ht rfl (by decide) F.sub_bool_dict F.slot_dict_eq F.slot_bool_eq_refl
    (fun _ hq => dict_eq_dec (b := .bool b) (Tb := "bool") ht rfl F.sub_bool_dict _ hq)
    (fun _ hq => (call_meets F.slot_bool_eq_refl rfl F.entry_int_eq (F.args_int_eq_2 _ _) (bool_eq_dec_dict b l es n) ⟨ho, hq⟩))
    (fun _ hq => wpAny_of_eq (rfl : isSame (.ref l) (.bool b) = pure false) hq) (.inr hu) h
theorem EqAt.bool_em (b : Bool) {l : Addr} (x : EmD s.heap l) (hu : A.units < cLine) : EqAt A s (.bool b) (.ref l) false := fun prog w E Q h => by
  unfold eqBool
  refine wpAny_holding ?_
  refine wpAny_ite_split (fun hab => absurd (eq_of_beq hab) nofun) (fun _ => ?_)
  exact wpAny_bind (RcAt.bool_em b x hu prog w E _ (wpAny_truthy_bool h))
theorem EqAt.em_bool (b : Bool) {l : Addr} (x : EmD s.heap l) (hu : A.units < cLine) : EqAt A s (.ref l) (.bool b) false := fun prog w E Q h => by
  unfold eqBool
  refine wpAny_holding ?_
  refine wpAny_ite_split (fun hab => absurd (eq_of_beq hab) nofun) (fun _ => ?_)
  exact wpAny_bind (RcAt.em_bool b x hu prog w E _ (wpAny_truthy_bool h))
theorem RcAt.int_em (b : Int) (u : Tok) {l : Addr} (x : EmD s.heap l) (hu : A.units < cLine) : RcAt A s (.int b u) (.ref l) false := fun prog w E Q h => by
  have ht := x.ty
  obtain ⟨es, n, ho, _⟩ := x.ex
  exact rc_eq_decline_or (k := false) (typeIs_int s b u) ht (by decide) F.sub_dict_int F.slot_int_eq F.slot_dict_eq_refl
    (fun _ hq => (call_meets F.slot_int_eq (typeIs_int s b u) F.entry_int_eq (F.args_int_eq_2 _ _) (int_eq_dec_dict b u l es n) ⟨ho, hq⟩))
    (fun _ hq => dict_eq_dec (b := .int b u) (Tb := "int") ht (typeIs_int s b u) F.sub_int_dict _ hq)
    (fun _ hq => wpAny_of_eq (rfl : isSame (.int b u) (.ref l) = pure false) hq) (.inr hu) h
theorem RcAt.em_int (b : Int) (u : Tok) {l : Addr} (x : EmD s.heap l) (hu : A.units < cLine) : RcAt A s (.ref l) (.int b u) false := fun prog w E Q h => by
  have ht := x.ty
  obtain ⟨es, n, ho, _⟩ := x.ex
  exact rc_eq_decline_or (k := false) ht (typeIs_int s b u) (by decide) F.sub_int_dict F.slot_dict_eq F.slot_int_eq_refl
    (fun _ hq => dict_eq_dec (b := .int b u) (Tb := "int") ht (typeIs_int s b u) F.sub_int_dict _ hq)
    (fun _ hq => (call_meets F.slot_int_eq_refl (typeIs_int s b u) F.entry_int_eq (F.args_int_eq_2 _ _) (int_eq_dec_dict b u l es n) ⟨ho, hq⟩))
    (fun _ hq => wpAny_of_eq (rfl : isSame (.ref l) (.int b u) = pure false) hq) (.inr hu) h
theorem EqAt.int_em (b : Int) (u : Tok) {l : Addr} (x : EmD s.heap l) (hu : A.units < cLine) : EqAt A s (.int b u) (.ref l) false := fun prog w E Q h => by
  unfold eqBool
  refine wpAny_holding ?_
  refine wpAny_ite_split (fun hab => absurd (eq_of_beq hab) nofun) (fun _ => ?_)
  exact wpAny_bind (RcAt.int_em b u x hu prog w E _ (wpAny_truthy_bool h))
theorem EqAt.em_int (b : Int) (u : Tok) {l : Addr} (x : EmD s.heap l) (hu : A.units < cLine) : EqAt A s (.ref l) (.int b u) false := fun prog w E Q h => by
  unfold eqBool
  refine wpAny_holding ?_
  refine wpAny_ite_split (fun hab => absurd (eq_of_beq hab) nofun) (fun _ => ?_)
  exact wpAny_bind (RcAt.em_int b u x hu prog w E _ (wpAny_truthy_bool h))
theorem RcAt.str_em (b : Str) (u : Tok) {l : Addr} (x : EmD s.heap l) (hu : A.units < cLine) : RcAt A s (.str b u) (.ref l) false := fun prog w E Q h => by
  have ht := x.ty
  obtain ⟨es, n, ho, _⟩ := x.ex
  exact rc_eq_decline_or (k := false) (typeIs_str s b u) ht (by decide) F.sub_dict_str F.slot_str_eq F.slot_dict_eq_refl
    (fun _ hq => (call_meets F.slot_str_eq (typeIs_str s b u) F.entry_str_eq (F.args_str_eq_2 _ _) (str_eq_dec_dict b u l es n) ⟨ho, hq⟩))
    (fun _ hq => dict_eq_dec (b := .str b u) (Tb := "str") ht (typeIs_str s b u) F.sub_str_dict _ hq)
    (fun _ hq => wpAny_of_eq (rfl : isSame (.str b u) (.ref l) = pure false) hq) (.inr hu) h
theorem RcAt.em_str (b : Str) (u : Tok) {l : Addr} (x : EmD s.heap l) (hu : A.units < cLine) : RcAt A s (.ref l) (.str b u) false := fun prog w E Q h => by
  have ht := x.ty
  obtain ⟨es, n, ho, _⟩ := x.ex
  exact rc_eq_decline_or (k := false) ht (typeIs_str s b u) (by decide) F.sub_str_dict F.slot_dict_eq F.slot_str_eq_refl
    (fun _ hq => dict_eq_dec (b := .str b u) (Tb := "str") ht (typeIs_str s b u) F.sub_str_dict _ hq)
    (fun _ hq => (call_meets F.slot_str_eq_refl (typeIs_str s b u) F.entry_str_eq (F.args_str_eq_2 _ _) (str_eq_dec_dict b u l es n) ⟨ho, hq⟩))
    (fun _ hq => wpAny_of_eq (rfl : isSame (.ref l) (.str b u) = pure false) hq) (.inr hu) h
theorem EqAt.str_em (b : Str) (u : Tok) {l : Addr} (x : EmD s.heap l) (hu : A.units < cLine) : EqAt A s (.str b u) (.ref l) false := fun prog w E Q h => by
  unfold eqBool
  refine wpAny_holding ?_
  refine wpAny_ite_split (fun hab => absurd (eq_of_beq hab) nofun) (fun _ => ?_)
  exact wpAny_bind (RcAt.str_em b u x hu prog w E _ (wpAny_truthy_bool h))
theorem EqAt.em_str (b : Str) (u : Tok) {l : Addr} (x : EmD s.heap l) (hu : A.units < cLine) : EqAt A s (.ref l) (.str b u) false := fun prog w E Q h => by
  unfold eqBool
  refine wpAny_holding ?_
  refine wpAny_ite_split (fun hab => absurd (eq_of_beq hab) nofun) (fun _ => ?_)
  exact wpAny_bind (RcAt.em_str b u x hu prog w E _ (wpAny_truthy_bool h))
theorem ne_of_list_em_eq {l b : Addr} {items : Array Value} (hl : s.heap.IsList l items) (x : EmD s.heap b) : l ≠ b := fun e => by
  subst e
  obtain ⟨o, ho, hc, _⟩ := hl
  obtain ⟨es, n, ho2, _⟩ := x.ex
  rw [ho] at ho2
  cases ho2
  exact absurd hc (by simp)
theorem RcAt.list_em {l b : Addr} {items : Array Value} (hl : s.heap.IsList l items) (x : EmD s.heap b) (hu : A.units < cLine) : RcAt A s (.ref l) (.ref b) false := fun prog w E Q h => by
  have hne := ne_of_list_em_eq hl x
  have ht := x.ty
  obtain ⟨es, n2, ho2, _⟩ := x.ex
  obtain ⟨⟨cls, dd, data, sl⟩, ho, hc, n, hd⟩ := id hl
  simp only at hc hd
  subst hc hd
  exact (rc_eq_decline_or (k := false) ⟨_, ho, rfl⟩ ht (by decide) F.sub_dict_list F.slot_list_eq F.slot_dict_eq_refl
    (fun _ hq => call_meets F.slot_list_eq ⟨_, ho, rfl⟩ F.entry_list_eq (F.args_list_eq_2 _ _) (list_eq_dec_dict l b items n dd sl es n2) ⟨ho, ho2, hq⟩)
    (fun _ hq => dict_eq_dec (b := .ref l) (Tb := "list") ht ⟨_, ho, rfl⟩ F.sub_list_dict _ hq)
    (fun _ hq => wpAny_isSame_ref_other' hne ho ho2 (by simp) hq) (.inr hu) h)
theorem RcAt.em_list {l b : Addr} {items : Array Value} (hl : s.heap.IsList l items) (x : EmD s.heap b) (hu : A.units < cLine) : RcAt A s (.ref b) (.ref l) false := fun prog w E Q h => by
  have hne := (ne_of_list_em_eq hl x).symm
  have ht := x.ty
  obtain ⟨es, n2, ho2, _⟩ := x.ex
  obtain ⟨⟨cls, dd, data, sl⟩, ho, hc, n, hd⟩ := id hl
  simp only at hc hd
  subst hc hd
  exact (rc_eq_decline_or (k := false) ht ⟨_, ho, rfl⟩ (by decide) F.sub_list_dict F.slot_dict_eq F.slot_list_eq_refl
    (fun _ hq => dict_eq_dec (b := .ref l) (Tb := "list") ht ⟨_, ho, rfl⟩ F.sub_list_dict _ hq)
    (fun _ hq => call_meets F.slot_list_eq_refl ⟨_, ho, rfl⟩ F.entry_list_eq (F.args_list_eq_2 _ _) (list_eq_dec_dict l b items n dd sl es n2) ⟨ho, ho2, hq⟩)
    (fun _ hq => wpAny_isSame_ref_other hne ho2 ho (by simp) hq) (.inr hu) h)
theorem EqAt.list_em {l b : Addr} {items : Array Value} (hl : s.heap.IsList l items) (x : EmD s.heap b) (hu : A.units < cLine) : EqAt A s (.ref l) (.ref b) false := .of_refs (ne_of_list_em_eq hl x) (.list_em hl x hu)
theorem EqAt.em_list {l b : Addr} {items : Array Value} (hl : s.heap.IsList l items) (x : EmD s.heap b) (hu : A.units < cLine) : EqAt A s (.ref b) (.ref l) false := .of_refs (ne_of_list_em_eq hl x).symm (.em_list hl x hu)
theorem ne_of_tuple_em_eq {l b : Addr} {items : Array Value} (hl : s.heap.IsTuple l items) (x : EmD s.heap b) : l ≠ b := fun e => by
  subst e
  obtain ⟨o, ho, hc, _⟩ := hl
  obtain ⟨es, n, ho2, _⟩ := x.ex
  rw [ho] at ho2
  cases ho2
  exact absurd hc (by simp)
theorem RcAt.tuple_em {l b : Addr} {items : Array Value} (hl : s.heap.IsTuple l items) (x : EmD s.heap b) (hu : A.units < cLine) : RcAt A s (.ref l) (.ref b) false := fun prog w E Q h => by
  have hne := ne_of_tuple_em_eq hl x
  have ht := x.ty
  obtain ⟨es, n2, ho2, _⟩ := x.ex
  obtain ⟨⟨cls, dd, data, sl⟩, ho, hc, n, hd⟩ := id hl
  simp only at hc hd
  subst hc hd
  exact (rc_eq_decline_or (k := false) ⟨_, ho, rfl⟩ ht (by decide) F.sub_dict_tuple F.slot_tuple_eq F.slot_dict_eq_refl
    (fun _ hq => call_meets F.slot_tuple_eq ⟨_, ho, rfl⟩ F.entry_tuple_eq (F.args_tuple_eq_2 _ _) (tuple_eq_dec_dict l b items n dd sl es n2) ⟨ho, ho2, hq⟩)
    (fun _ hq => dict_eq_dec (b := .ref l) (Tb := "tuple") ht ⟨_, ho, rfl⟩ F.sub_tuple_dict _ hq)
    (fun _ hq => wpAny_isSame_ref_other' hne ho ho2 (by simp) hq) (.inr hu) h)
theorem RcAt.em_tuple {l b : Addr} {items : Array Value} (hl : s.heap.IsTuple l items) (x : EmD s.heap b) (hu : A.units < cLine) : RcAt A s (.ref b) (.ref l) false := fun prog w E Q h => by
  have hne := (ne_of_tuple_em_eq hl x).symm
  have ht := x.ty
  obtain ⟨es, n2, ho2, _⟩ := x.ex
  obtain ⟨⟨cls, dd, data, sl⟩, ho, hc, n, hd⟩ := id hl
  simp only at hc hd
  subst hc hd
  exact (rc_eq_decline_or (k := false) ht ⟨_, ho, rfl⟩ (by decide) F.sub_tuple_dict F.slot_dict_eq F.slot_tuple_eq_refl
    (fun _ hq => dict_eq_dec (b := .ref l) (Tb := "tuple") ht ⟨_, ho, rfl⟩ F.sub_tuple_dict _ hq)
    (fun _ hq => call_meets F.slot_tuple_eq_refl ⟨_, ho, rfl⟩ F.entry_tuple_eq (F.args_tuple_eq_2 _ _) (tuple_eq_dec_dict l b items n dd sl es n2) ⟨ho, ho2, hq⟩)
    (fun _ hq => wpAny_isSame_ref_other hne ho2 ho (by simp) hq) (.inr hu) h)
theorem EqAt.tuple_em {l b : Addr} {items : Array Value} (hl : s.heap.IsTuple l items) (x : EmD s.heap b) (hu : A.units < cLine) : EqAt A s (.ref l) (.ref b) false := .of_refs (ne_of_tuple_em_eq hl x) (.tuple_em hl x hu)
theorem EqAt.em_tuple {l b : Addr} {items : Array Value} (hl : s.heap.IsTuple l items) (x : EmD s.heap b) (hu : A.units < cLine) : EqAt A s (.ref b) (.ref l) false := .of_refs (ne_of_tuple_em_eq hl x).symm (.em_tuple hl x hu)
theorem dict_ne_dec {a : Addr} {b : Value} {Tb : String} (ha : s.TypeIs (.ref a) "dict") (hb : s.TypeIs b Tb) (hsub : isSubtype (.type Tb) (.type "dict") = pure false) (Q : Value → Shared → Prop) (hq : Q .notImplemented s) :
    wpAny (model prog w) A (call (.builtin "dict.__ne__") [.ref a, b]) Q E s := by
  refine wpAny_call_entry PySem.F.slot_dict_ne ha PySem.F.entry_dict_ne ?_ (PySem.F.args_dict_ne_2 _ _)
  show wpAny _ _ (Builtin.Dict.dictSlotArgs "__ne__" ⟨[.ref a, b], []⟩ >>= _) _ _ s
  refine wpAny_bind ?_
  unfold Builtin.Dict.dictSlotArgs
  refine wpAny_bind (wpAny_notOrdered_dict ha ?_)
  show wpAny _ _ (pure (Value.ref a, b)) _ _ s
  refine wpAny_pure ?_
  refine wpAny_bind (wpAny_isInstance (T := Tb) hb hsub ?_)
  simp only [Bool.not_false, if_true]
  refine wpAny_bind (wpAny_rule ?_)
  exact wpAny_pure ⟨_, rfl, hq⟩
theorem list_ne_dec_dict (l b : Addr) (items : Array Value) (n : Nat) (dd : Option Addr) (sl : Array (Option Value)) (es : Array DictEntry) (n2 : Nat) :
    Meets (Builtin.«list.__ne__» ⟨[.ref l, .ref b], []⟩) (fun _ R s => s.heap.get? l = some { cls := .type "list", dict := dd, data := .seq items n, slots := sl } ∧ s.heap.get? b = some { cls := .type "dict", data := .dict es n2 } ∧ R (.ok (.ret .notImplemented)) s) :=
  .of_wp fun prog w A R s h => by obtain ⟨hp, g, d, tk, os⟩ := s; obtain ⟨hl, hb, h⟩ := h; have f1 := F.sub_dict_list; wp_walk using wpAny_loadPart' hl, wpAny_loadPart' hb; exact ⟨_, rfl, h⟩
theorem tuple_ne_dec_dict (l b : Addr) (items : Array Value) (n : Nat) (dd : Option Addr) (sl : Array (Option Value)) (es : Array DictEntry) (n2 : Nat) :
    Meets (Builtin.«tuple.__ne__» ⟨[.ref l, .ref b], []⟩) (fun _ R s => s.heap.get? l = some { cls := .type "tuple", dict := dd, data := .seq items n, slots := sl } ∧ s.heap.get? b = some { cls := .type "dict", data := .dict es n2 } ∧ R (.ok (.ret .notImplemented)) s) :=
  .of_wp fun prog w A R s h => by obtain ⟨hp, g, d, tk, os⟩ := s; obtain ⟨hl, hb, h⟩ := h; have f1 := F.sub_dict_tuple; wp_walk using wpAny_loadPart' hl, wpAny_loadPart' hb; exact ⟨_, rfl, h⟩
theorem bool_ne_dec_dict (b : Bool) (l : Addr) (es : Array DictEntry) (n2 : Nat) :
    Meets (Builtin.«int.__ne__» ⟨[.bool b, .ref l], []⟩) (fun _ R s => s.heap.get? l = some { cls := .type "dict", data := .dict es n2 } ∧ R (.ok (.ret .notImplemented)) s) :=
  .of_wp fun prog w A R s h => by obtain ⟨hp, g, d, tk, os⟩ := s; obtain ⟨hl, h⟩ := h; wp_walk using wpAny_loadPart' hl, wpAny_load hl; exact ⟨_, rfl, h⟩
theorem int_ne_dec_dict (b : Int) (u : Tok) (l : Addr) (es : Array DictEntry) (n2 : Nat) :
    Meets (Builtin.«int.__ne__» ⟨[.int b u, .ref l], []⟩) (fun _ R s => s.heap.get? l = some { cls := .type "dict", data := .dict es n2 } ∧ R (.ok (.ret .notImplemented)) s) :=
  .of_wp fun prog w A R s h => by obtain ⟨hp, g, d, tk, os⟩ := s; obtain ⟨hl, h⟩ := h; wp_walk using wpAny_loadPart' hl, wpAny_load hl; exact ⟨_, rfl, h⟩
theorem str_ne_dec_dict (b : Str) (u : Tok) (l : Addr) (es : Array DictEntry) (n2 : Nat) :
    Meets (Builtin.«str.__ne__» ⟨[.str b u, .ref l], []⟩) (fun _ R s => s.heap.get? l = some { cls := .type "dict", data := .dict es n2 } ∧ R (.ok (.ret .notImplemented)) s) :=
  .of_wp fun prog w A R s h => by obtain ⟨hp, g, d, tk, os⟩ := s; obtain ⟨hl, h⟩ := h; wp_walk using wpAny_loadPart' hl, wpAny_load hl; exact ⟨_, rfl, h⟩
theorem RcNeAt.none_em {l : Addr} (x : EmD s.heap l) (hu : A.units < cLine) : RcNeAt A s (.none) (.ref l) true := fun prog w E Q h => by
  have ht := x.ty
  obtain ⟨es, n, ho, _⟩ := x.ex
  exact rc_ne_decline_or (k := false) rfl ht (by decide) F.sub_dict_NoneType F.slot_NoneType_ne F.slot_dict_ne_refl
    (fun _ hq => (call_gives F.slot_NoneType_ne rfl F.entry_NoneType_ne (F.args_NoneType_ne_2 _ _) (NoneType___ne___none_ref_0 l) hq))
    (fun _ hq => dict_ne_dec (b := .none) (Tb := "NoneType") ht rfl F.sub_NoneType_dict _ hq)
    (fun _ hq => wpAny_of_eq (rfl : isSame (.none) (.ref l) = pure false) hq) (.inr hu) h
theorem RcNeAt.em_none {l : Addr} (x : EmD s.heap l) (hu : A.units < cLine) : RcNeAt A s (.ref l) (.none) true := fun prog w E Q h => by
  have ht := x.ty
  obtain ⟨es, n, ho, _⟩ := x.ex
  exact rc_ne_decline_or (k := false) ht rfl (by decide) F.sub_NoneType_dict F.slot_dict_ne F.slot_NoneType_ne_refl
    (fun _ hq => dict_ne_dec (b := .none) (Tb := "NoneType") ht rfl F.sub_NoneType_dict _ hq)
    (fun _ hq => (call_gives F.slot_NoneType_ne_refl rfl F.entry_NoneType_ne (F.args_NoneType_ne_2 _ _) (NoneType___ne___none_ref_0 l) hq))
    (fun _ hq => wpAny_of_eq (rfl : isSame (.ref l) (.none) = pure false) hq) (.inr hu) h
theorem RcNeAt.bool_em (b : Bool) {l : Addr} (x : EmD s.heap l) (hu : A.units < cLine) : RcNeAt A s (.bool b) (.ref l) true := fun prog w E Q h => by
  have ht := x.ty
  obtain ⟨es, n, ho, _⟩ := x.ex
  exact rc_ne_decline_or (k := false) rfl ht (by decide) F.sub_dict_bool F.slot_bool_ne F.slot_dict_ne_refl
    (fun _ hq => (call_meets F.slot_bool_ne rfl F.entry_int_ne (F.args_int_ne_2 _ _) (bool_ne_dec_dict b l es n) ⟨ho, hq⟩))
    (fun _ hq => dict_ne_dec (b := .bool b) (Tb := "bool") ht rfl F.sub_bool_dict _ hq)
    (fun _ hq => wpAny_of_eq (rfl : isSame (.bool b) (.ref l) = pure false) hq) (.inr hu) h
theorem RcNeAt.em_bool (b : Bool) {l : Addr} (x : EmD s.heap l) (hu : A.units < cLine) : RcNeAt A s (.ref l) (.bool b) true := fun prog w E Q h => by
  have ht := x.ty
  obtain ⟨es, n, ho, _⟩ := x.ex
  exact rc_ne_decline_or (k := false) ht rfl (by decide) F.sub_bool_dict F.slot_dict_ne F.slot_bool_ne_refl
    (fun _ hq => dict_ne_dec (b := .bool b) (Tb := "bool") ht rfl F.sub_bool_dict _ hq)
    (fun _ hq => (call_meets F.slot_bool_ne_refl rfl F.entry_int_ne (F.args_int_ne_2 _ _) (bool_ne_dec_dict b l es n) ⟨ho, hq⟩))
    (fun _ hq => wpAny_of_eq (rfl : isSame (.ref l) (.bool b) = pure false) hq) (.inr hu) h
theorem RcNeAt.int_em (b : Int) (u : Tok) {l : Addr} (x : EmD s.heap l) (hu : A.units < cLine) : RcNeAt A s (.int b u) (.ref l) true := fun prog w E Q h => by
  have ht := x.ty
  obtain ⟨es, n, ho, _⟩ := x.ex
  exact rc_ne_decline_or (k := false) (typeIs_int s b u) ht (by decide) F.sub_dict_int F.slot_int_ne F.slot_dict_ne_refl
    (fun _ hq => (call_meets F.slot_int_ne (typeIs_int s b u) F.entry_int_ne (F.args_int_ne_2 _ _) (int_ne_dec_dict b u l es n) ⟨ho, hq⟩))
    (fun _ hq => dict_ne_dec (b := .int b u) (Tb := "int") ht (typeIs_int s b u) F.sub_int_dict _ hq)
    (fun _ hq => wpAny_of_eq (rfl : isSame (.int b u) (.ref l) = pure false) hq) (.inr hu) h
theorem RcNeAt.em_int (b : Int) (u : Tok) {l : Addr} (x : EmD s.heap l) (hu : A.units < cLine) : RcNeAt A s (.ref l) (.int b u) true := fun prog w E Q h => by
  have ht := x.ty
  obtain ⟨es, n, ho, _⟩ := x.ex
  exact rc_ne_decline_or (k := false) ht (typeIs_int s b u) (by decide) F.sub_int_dict F.slot_dict_ne F.slot_int_ne_refl
    (fun _ hq => dict_ne_dec (b := .int b u) (Tb := "int") ht (typeIs_int s b u) F.sub_int_dict _ hq)
    (fun _ hq => (call_meets F.slot_int_ne_refl (typeIs_int s b u) F.entry_int_ne (F.args_int_ne_2 _ _) (int_ne_dec_dict b u l es n) ⟨ho, hq⟩))
    (fun _ hq => wpAny_of_eq (rfl : isSame (.ref l) (.int b u) = pure false) hq) (.inr hu) h
theorem RcNeAt.str_em (b : Str) (u : Tok) {l : Addr} (x : EmD s.heap l) (hu : A.units < cLine) : RcNeAt A s (.str b u) (.ref l) true := fun prog w E Q h => by
  have ht := x.ty
  obtain ⟨es, n, ho, _⟩ := x.ex
  exact rc_ne_decline_or (k := false) (typeIs_str s b u) ht (by decide) F.sub_dict_str F.slot_str_ne F.slot_dict_ne_refl
    (fun _ hq => (call_meets F.slot_str_ne (typeIs_str s b u) F.entry_str_ne (F.args_str_ne_2 _ _) (str_ne_dec_dict b u l es n) ⟨ho, hq⟩))
    (fun _ hq => dict_ne_dec (b := .str b u) (Tb := "str") ht (typeIs_str s b u) F.sub_str_dict _ hq)
    (fun _ hq => wpAny_of_eq (rfl : isSame (.str b u) (.ref l) = pure false) hq) (.inr hu) h
theorem RcNeAt.em_str (b : Str) (u : Tok) {l : Addr} (x : EmD s.heap l) (hu : A.units < cLine) : RcNeAt A s (.ref l) (.str b u) true := fun prog w E Q h => by
  have ht := x.ty
  obtain ⟨es, n, ho, _⟩ := x.ex
  exact rc_ne_decline_or (k := false) ht (typeIs_str s b u) (by decide) F.sub_str_dict F.slot_dict_ne F.slot_str_ne_refl
    (fun _ hq => dict_ne_dec (b := .str b u) (Tb := "str") ht (typeIs_str s b u) F.sub_str_dict _ hq)
    (fun _ hq => (call_meets F.slot_str_ne_refl (typeIs_str s b u) F.entry_str_ne (F.args_str_ne_2 _ _) (str_ne_dec_dict b u l es n) ⟨ho, hq⟩))
    (fun _ hq => wpAny_of_eq (rfl : isSame (.ref l) (.str b u) = pure false) hq) (.inr hu) h
theorem ne_of_list_em_ne {l b : Addr} {items : Array Value} (hl : s.heap.IsList l items) (x : EmD s.heap b) : l ≠ b := fun e => by
  subst e
  obtain ⟨o, ho, hc, _⟩ := hl
  obtain ⟨es, n, ho2, _⟩ := x.ex
  rw [ho] at ho2
  cases ho2
  exact absurd hc (by simp)
theorem RcNeAt.list_em {l b : Addr} {items : Array Value} (hl : s.heap.IsList l items) (x : EmD s.heap b) (hu : A.units < cLine) : RcNeAt A s (.ref l) (.ref b) true := fun prog w E Q h => by
  have hne := ne_of_list_em_ne hl x
  have ht := x.ty
  obtain ⟨es, n2, ho2, _⟩ := x.ex
  obtain ⟨⟨cls, dd, data, sl⟩, ho, hc, n, hd⟩ := id hl
  simp only at hc hd
  subst hc hd
  exact (rc_ne_decline_or (k := false) ⟨_, ho, rfl⟩ ht (by decide) F.sub_dict_list F.slot_list_ne F.slot_dict_ne_refl
    (fun _ hq => call_meets F.slot_list_ne ⟨_, ho, rfl⟩ F.entry_list_ne (F.args_list_ne_2 _ _) (list_ne_dec_dict l b items n dd sl es n2) ⟨ho, ho2, hq⟩)
    (fun _ hq => dict_ne_dec (b := .ref l) (Tb := "list") ht ⟨_, ho, rfl⟩ F.sub_list_dict _ hq)
    (fun _ hq => wpAny_isSame_ref_other' hne ho ho2 (by simp) hq) (.inr hu) h)
theorem RcNeAt.em_list {l b : Addr} {items : Array Value} (hl : s.heap.IsList l items) (x : EmD s.heap b) (hu : A.units < cLine) : RcNeAt A s (.ref b) (.ref l) true := fun prog w E Q h => by
  have hne := (ne_of_list_em_ne hl x).symm
  have ht := x.ty
  obtain ⟨es, n2, ho2, _⟩ := x.ex
  obtain ⟨⟨cls, dd, data, sl⟩, ho, hc, n, hd⟩ := id hl
  simp only at hc hd
  subst hc hd
  exact (rc_ne_decline_or (k := false) ht ⟨_, ho, rfl⟩ (by decide) F.sub_list_dict F.slot_dict_ne F.slot_list_ne_refl
    (fun _ hq => dict_ne_dec (b := .ref l) (Tb := "list") ht ⟨_, ho, rfl⟩ F.sub_list_dict _ hq)
    (fun _ hq => call_meets F.slot_list_ne_refl ⟨_, ho, rfl⟩ F.entry_list_ne (F.args_list_ne_2 _ _) (list_ne_dec_dict l b items n dd sl es n2) ⟨ho, ho2, hq⟩)
    (fun _ hq => wpAny_isSame_ref_other hne ho2 ho (by simp) hq) (.inr hu) h)
theorem ne_of_tuple_em_ne {l b : Addr} {items : Array Value} (hl : s.heap.IsTuple l items) (x : EmD s.heap b) : l ≠ b := fun e => by
  subst e
  obtain ⟨o, ho, hc, _⟩ := hl
  obtain ⟨es, n, ho2, _⟩ := x.ex
  rw [ho] at ho2
  cases ho2
  exact absurd hc (by simp)
theorem RcNeAt.tuple_em {l b : Addr} {items : Array Value} (hl : s.heap.IsTuple l items) (x : EmD s.heap b) (hu : A.units < cLine) : RcNeAt A s (.ref l) (.ref b) true := fun prog w E Q h => by
  have hne := ne_of_tuple_em_ne hl x
  have ht := x.ty
  obtain ⟨es, n2, ho2, _⟩ := x.ex
  obtain ⟨⟨cls, dd, data, sl⟩, ho, hc, n, hd⟩ := id hl
  simp only at hc hd
  subst hc hd
  exact (rc_ne_decline_or (k := false) ⟨_, ho, rfl⟩ ht (by decide) F.sub_dict_tuple F.slot_tuple_ne F.slot_dict_ne_refl
    (fun _ hq => call_meets F.slot_tuple_ne ⟨_, ho, rfl⟩ F.entry_tuple_ne (F.args_tuple_ne_2 _ _) (tuple_ne_dec_dict l b items n dd sl es n2) ⟨ho, ho2, hq⟩)
    (fun _ hq => dict_ne_dec (b := .ref l) (Tb := "tuple") ht ⟨_, ho, rfl⟩ F.sub_tuple_dict _ hq)
    (fun _ hq => wpAny_isSame_ref_other' hne ho ho2 (by simp) hq) (.inr hu) h)
theorem RcNeAt.em_tuple {l b : Addr} {items : Array Value} (hl : s.heap.IsTuple l items) (x : EmD s.heap b) (hu : A.units < cLine) : RcNeAt A s (.ref b) (.ref l) true := fun prog w E Q h => by
  have hne := (ne_of_tuple_em_ne hl x).symm
  have ht := x.ty
  obtain ⟨es, n2, ho2, _⟩ := x.ex
  obtain ⟨⟨cls, dd, data, sl⟩, ho, hc, n, hd⟩ := id hl
  simp only at hc hd
  subst hc hd
  exact (rc_ne_decline_or (k := false) ht ⟨_, ho, rfl⟩ (by decide) F.sub_tuple_dict F.slot_dict_ne F.slot_tuple_ne_refl
    (fun _ hq => dict_ne_dec (b := .ref l) (Tb := "tuple") ht ⟨_, ho, rfl⟩ F.sub_tuple_dict _ hq)
    (fun _ hq => call_meets F.slot_tuple_ne_refl ⟨_, ho, rfl⟩ F.entry_tuple_ne (F.args_tuple_ne_2 _ _) (tuple_ne_dec_dict l b items n dd sl es n2) ⟨ho, ho2, hq⟩)
    (fun _ hq => wpAny_isSame_ref_other hne ho2 ho (by simp) hq) (.inr hu) h)
theorem RcAt.em_em {a b : Addr} (x : EmD s.heap a) (y : EmD s.heap b) (hu : A.units < cLine) : RcAt A s (.ref a) (.ref b) true := fun prog w E Q h => by
  obtain ⟨es, n, ho, he⟩ := x.ex
  obtain ⟨es2, n2, ho2, he2⟩ := y.ex
  have da : s.heap.DictOf (L2.mixKind prog w) a [] := ⟨_, es, n, ho, ⟨rfl, rfl, rfl⟩, rfl, by intro e hm; rw [← Array.mem_toList_iff, he] at hm; exact absurd hm List.not_mem_nil, by rw [he]; exact .nil, List.nodup_nil⟩
  have db : s.heap.DictOf (L2.mixKind prog w) b [] := ⟨_, es2, n2, ho2, ⟨rfl, rfl, rfl⟩, rfl, by intro e hm; rw [← Array.mem_toList_iff, he2] at hm; exact absurd hm List.not_mem_nil, by rw [he2]; exact .nil, List.nodup_nil⟩
  exact PySem.W.keq_eq (knd := L2.mixKind prog w) (ka := []) (kb := []) (r := true) x.ns y.ns da db hu (fun _ => .nil) h
theorem RcNeAt.em_em {a b : Addr} (x : EmD s.heap a) (y : EmD s.heap b) (hu : A.units < cLine) : RcNeAt A s (.ref a) (.ref b) false := fun prog w E Q h => by
  obtain ⟨es, n, ho, he⟩ := x.ex
  obtain ⟨es2, n2, ho2, he2⟩ := y.ex
  have da : s.heap.DictOf (L2.mixKind prog w) a [] := ⟨_, es, n, ho, ⟨rfl, rfl, rfl⟩, rfl, by intro e hm; rw [← Array.mem_toList_iff, he] at hm; exact absurd hm List.not_mem_nil, by rw [he]; exact .nil, List.nodup_nil⟩
  have db : s.heap.DictOf (L2.mixKind prog w) b [] := ⟨_, es2, n2, ho2, ⟨rfl, rfl, rfl⟩, rfl, by intro e hm; rw [← Array.mem_toList_iff, he2] at hm; exact absurd hm List.not_mem_nil, by rw [he2]; exact .nil, List.nodup_nil⟩
  exact PySem.W.keq_ne (knd := L2.mixKind prog w) (ka := []) (kb := []) (r := true) x.ns y.ns da db hu (fun _ => .nil) h
theorem EqAt.em_em {a b : Addr} (x : EmD s.heap a) (y : EmD s.heap b) (hu : A.units < cLine) : EqAt A s (.ref a) (.ref b) true := by
  by_cases e : a = b
  · subst e; exact .same _
  · exact .of_refs e (.em_em x y hu)
end
end PySem.SeqAt
namespace DL
open PySem PySem.Spec L2
open PyProof.Rows hiding St
open PySem.SeqAt
mutual
inductive Rd (h : Heap) : Value → PyData → Prop
  | none : Rd h .none .none
  | bool (b : Bool) : Rd h (.bool b) (.bool b)
  | int (i : Int) (t : Tok) : Rd h (.int i t) (.int i)
  | str (x : Str) (t : Tok) : Rd h (.str x t) (.str x)
  | list {a : Addr} {o : Obj} {vs : Array Value} {n : Nat} {xs : List PyData} : h.get? a = some o → o.cls = .type "list" → o.data = .seq vs n → Rds h vs.toList xs → Rd h (.ref a) (.list xs)
  | tuple {a : Addr} {o : Obj} {vs : Array Value} {n : Nat} {xs : List PyData} : h.get? a = some o → o.cls = .type "tuple" → o.data = .seq vs n → Rds h vs.toList xs → Rd h (.ref a) (.tuple xs)
  | em {a : Addr} : EmD h a → Rd h (.ref a) (.dict [])
inductive Rds (h : Heap) : List Value → List PyData → Prop
  | nil : Rds h [] []
  | cons {v : Value} {vs : List Value} {d : PyData} {ds : List PyData} : Rd h v d → Rds h vs ds → Rds h (v :: vs) (d :: ds)
end
section
variable {X : Cx} {pins : List (Addr × Obj)} {σ : St} {H : Hp} {s : Shared}
mutual
theorem dpe_rd (I : Inv X pins σ H s) : ∀ {v : V} {d : PyData} {u : Value}, DpE X.K H v d → RelV v u → Rd s.heap u d
  | _, _, _, .non, r => by cases r; exact .none
  | _, _, _, .bl b, r => by cases r; exact .bool b
  | _, _, _, .int i, r => by obtain ⟨t, rfl⟩ := r; exact .int i t
  | _, _, _, .str x, r => by obtain ⟨t, rfl⟩ := r; exact .str x t
  | _, _, _, .lst hs ha, r => by
    cases r
    obtain ⟨its, rv, ⟨o, n, ho, hc, _, hd⟩, _⟩ := I.list hs
    exact .list ho hc hd (dpes_rd I ha rv)
  | _, _, _, .tup hs ha, r => by
    cases r
    obtain ⟨its, rv, ⟨o, ho, hc, n, hd⟩, _⟩ := I.tuple hs
    exact .tuple ho hc hd (dpes_rd I ha rv)
  | _, _, _, .em e, r => by
    cases r
    obtain ⟨hs, o, es, n, ho, hx, hd, hes⟩ := em_reads I e
    obtain ⟨cls, dd, data, sl⟩ := o
    obtain ⟨h1, h2, h3⟩ := hx
    simp only at h1 h2 h3 hd
    subst h1 h2 h3 hd
    exact .em ⟨⟨es, n, ho, hes⟩, hs⟩
theorem dpes_rd (I : Inv X pins σ H s) : ∀ {vs : List V} {ds : List PyData} {us : List Value}, DpEs X.K H vs ds → Vals vs us → Rds s.heap us ds
  | _, _, _, .nil, .nil => .nil
  | _, _, _, .cons h hs, .cons r rs => .cons (dpe_rd I h r) (dpes_rd I hs rs)
end
end
mutual
def eqE : PyData → PyData → Bool
  | .list xs, .list ys => eqEs xs ys
  | .tuple xs, .tuple ys => eqEs xs ys
  | .dict _, .dict _ => true
  | d, e => PyData.eqv d e
def eqEs : List PyData → List PyData → Bool
  | [], [] => true
  | x :: xs, y :: ys => eqE x y && eqEs xs ys
  | _, _ => false
end
theorem Rds.len {h : Heap} : ∀ {vs : List Value} {xs : List PyData}, Rds h vs xs → vs.length = xs.length
  | _, _, .nil => rfl
  | _, _, .cons _ r => by simp [r.len]
mutual
theorem Rd.uniq {h : Heap} : ∀ (d d' : PyData) (v : Value), Rd h v d → Rd h v d' → d = d'
  | .none, _, _, r, r' => by cases r; cases r'; rfl
  | .bool _, _, _, r, r' => by cases r; cases r'; rfl
  | .int _, _, _, r, r' => by cases r; cases r'; rfl
  | .str _, _, _, r, r' => by cases r; cases r'; rfl
  | .list xs, d', _, r, r' => by
    cases r with
    | list h1 h2 h3 h4 =>
      cases r' with
      | list k1 k2 k3 k4 =>
        rw [h1] at k1; cases k1
        rw [h3] at k3; cases k3
        rw [Rds.uniq xs _ _ h4 k4]
      | tuple k1 k2 k3 k4 => rw [h1] at k1; cases k1; rw [h2] at k2; exact absurd k2 (by simp)
      | em e => obtain ⟨es, n, k1, _⟩ := e.ex; rw [h1] at k1; cases k1; exact absurd h2 (by simp)
  | .tuple xs, d', _, r, r' => by
    cases r with
    | tuple h1 h2 h3 h4 =>
      cases r' with
      | tuple k1 k2 k3 k4 =>
        rw [h1] at k1; cases k1
        rw [h3] at k3; cases k3
        rw [Rds.uniq xs _ _ h4 k4]
      | list k1 k2 k3 k4 => rw [h1] at k1; cases k1; rw [h2] at k2; exact absurd k2 (by simp)
      | em e => obtain ⟨es, n, k1, _⟩ := e.ex; rw [h1] at k1; cases k1; exact absurd h2 (by simp)
  | .dict _, d', _, r, r' => by
    cases r with
    | em e =>
      obtain ⟨es, n, h1, _⟩ := e.ex
      cases r' with
      | em _ => rfl
      | list k1 k2 k3 k4 => rw [h1] at k1; cases k1; exact absurd k2 (by simp)
      | tuple k1 k2 k3 k4 => rw [h1] at k1; cases k1; exact absurd k2 (by simp)
theorem Rds.uniq {h : Heap} : ∀ (xs ys : List PyData) (vs : List Value), Rds h vs xs → Rds h vs ys → xs = ys
  | [], _, _, r, r' => by cases r; cases r'; rfl
  | x :: xs, _, _, r, r' => by
    cases r with
    | cons h1 h2 =>
      cases r' with
      | cons k1 k2 => rw [Rd.uniq x _ _ h1 k1, Rds.uniq xs _ _ h2 k2]
end
mutual
theorem eqE_refl : ∀ d : PyData, eqE d d = true
  | .none => rfl
  | .bool b => by simp [eqE, PyData.eqv]
  | .int i => by simp [eqE, PyData.eqv]
  | .str x => by simp [eqE, PyData.eqv]
  | .list xs => by rw [eqE]; exact eqEs_refl xs
  | .tuple xs => by rw [eqE]; exact eqEs_refl xs
  | .dict _ => by rw [eqE]
theorem eqEs_refl : ∀ xs : List PyData, eqEs xs xs = true
  | [] => by rw [eqEs]
  | x :: xs => by rw [eqEs, eqE_refl x, eqEs_refl xs]; rfl
end
abbrev pairE (xs ys : List PyData) (j : Nat) : Bool := eqE (xs.getD j .none) (ys.getD j .none)
theorem eqEs_eq : ∀ xs ys : List PyData, ((List.range (min xs.length ys.length)).all (pairE xs ys) && xs.length == ys.length) = eqEs xs ys
  | [], [] => by rw [eqEs]; rfl
  | [], _ :: _ => by simp [eqEs]
  | _ :: _, [] => by simp [eqEs]
  | x :: xs, y :: ys => by
    have ih := eqEs_eq xs ys
    have e1 : min (x :: xs).length (y :: ys).length = min xs.length ys.length + 1 := by simp only [List.length_cons]; omega
    have e2 : ((x :: xs).length == (y :: ys).length) = (xs.length == ys.length) := by simp
    have e3 : (List.range (min xs.length ys.length + 1)).all (pairE (x :: xs) (y :: ys)) = (eqE x y && (List.range (min xs.length ys.length)).all (pairE xs ys)) := by
      rw [List.range_succ_eq_map, List.all_cons, List.all_map]
      first | rfl | simp [pairE, Function.comp_def]
    rw [e1, e2, e3, eqEs, ← ih, Bool.and_assoc]
theorem eqEs_len {xs ys : List PyData} (h : xs.length = ys.length) : (List.range xs.length).all (pairE xs ys) = eqEs xs ys := by
  have := eqEs_eq xs ys
  rw [← h, Nat.min_self] at this
  simpa using this
theorem eqEs_other {xs ys : List PyData} (h : xs.length ≠ ys.length) : eqEs xs ys = false := by
  rw [← eqEs_eq xs ys]
  simp [h]
theorem roomE {u a : Nat} (h : u + a < cLine) : u < cLine := by omega
theorem roomE1 {u a : Nat} (h : u + (a + 1) < cLine) : u + 1 + a < cLine := by omega
theorem roomH {u a b : Nat} (h : u + max a b < cLine) : u + a < cLine := by omega
theorem roomT {u a b : Nat} (h : u + max a b < cLine) : u + b < cLine := by omega
mutual
theorem eqAt_rd : ∀ (da db : PyData) (A : Around) (s : Shared) (a b : Value), Rd s.heap a da → Rd s.heap b db → A.units + da.depth < cLine → EqAt A s a b (eqE da db)
  | .none, _, A, s, _, _, ra, rb, hu => by
    cases ra with
    | none =>
      cases rb with
      | none => exact EqAt.same _
      | bool y => exact EqAt.none_bool  y
      | int y u => exact EqAt.none_int  y u
      | str y u => exact EqAt.none_str  y u
      | list k1 k2 k3 k4 => exact EqAt.none_list  ⟨_, k1, k2, _, k3⟩ (roomE hu)
      | tuple k1 k2 k3 k4 => exact EqAt.none_tuple  ⟨_, k1, k2, _, k3⟩ (roomE hu)
      | em e => exact EqAt.none_em  e (roomE hu)
  | .bool x, _, A, s, _, _, ra, rb, hu => by
    cases ra with
    | bool =>
      cases rb with
      | none => exact EqAt.bool_none x 
      | bool y => exact EqAt.bool_bool x y
      | int y u => exact EqAt.bool_int x y u
      | str y u => exact EqAt.bool_str x y u
      | list k1 k2 k3 k4 => exact EqAt.bool_list x ⟨_, k1, k2, _, k3⟩ (roomE hu)
      | tuple k1 k2 k3 k4 => exact EqAt.bool_tuple x ⟨_, k1, k2, _, k3⟩ (roomE hu)
      | em e => exact EqAt.bool_em x e (roomE hu)
  | .int x, _, A, s, _, _, ra, rb, hu => by
    cases ra with
    | int _ t =>
      cases rb with
      | none => exact EqAt.int_none x t 
      | bool y => exact EqAt.int_bool x t y
      | int y u => exact EqAt.int_int x t y u
      | str y u => exact EqAt.int_str x t y u
      | list k1 k2 k3 k4 => exact EqAt.int_list x t ⟨_, k1, k2, _, k3⟩ (roomE hu)
      | tuple k1 k2 k3 k4 => exact EqAt.int_tuple x t ⟨_, k1, k2, _, k3⟩ (roomE hu)
      | em e => exact EqAt.int_em x t e (roomE hu)
  | .str x, _, A, s, _, _, ra, rb, hu => by
    cases ra with
    | str _ t =>
      cases rb with
      | none => exact EqAt.str_none x t 
      | bool y => exact EqAt.str_bool x t y
      | int y u => exact EqAt.str_int x t y u
      | str y u => exact EqAt.str_str x t y u
      | list k1 k2 k3 k4 => exact EqAt.str_list x t ⟨_, k1, k2, _, k3⟩ (roomE hu)
      | tuple k1 k2 k3 k4 => exact EqAt.str_tuple x t ⟨_, k1, k2, _, k3⟩ (roomE hu)
      | em e => exact EqAt.str_em x t e (roomE hu)
  | .list xs, db, A, s, _, _, ra, rb, hu => by
    cases ra with
    | @list l o vs n _ h1 h2 h3 h4 =>
      have hl : s.heap.IsList l vs := ⟨_, h1, h2, _, h3⟩
      cases rb with
      | none => exact EqAt.list_none  hl (roomE hu)
      | bool y => exact EqAt.list_bool y hl (roomE hu)
      | int y u => exact EqAt.list_int y u hl (roomE hu)
      | str y u => exact EqAt.list_str y u hl (roomE hu)
      | tuple k1 k2 k3 k4 => exact EqAt.list_tuple hl ⟨_, k1, k2, _, k3⟩ (roomE hu)
      | em e => exact EqAt.list_em hl e (roomE hu)
      | @list l' o' vs' n' ys k1 k2 k3 k4 =>
        have hl' : s.heap.IsList l' vs' := ⟨_, k1, k2, _, k3⟩
        have n1 : vs.size = xs.length := by simpa using h4.len
        have n2 : vs'.size = ys.length := by simpa using k4.len
        rw [eqE]
        by_cases hll : l = l'
        · subst hll
          have e : PyData.list xs = PyData.list ys := Rd.uniq (.list xs) (.list ys) _ (.list h1 h2 h3 h4) (.list k1 k2 k3 k4)
          injection e with e
          subst e
          rw [eqEs_refl xs]
          exact EqAt.same _
        · by_cases hsz : vs.size = vs'.size
          · rw [← eqEs_len (by omega : xs.length = ys.length), ← n1]
            refine EqAt.of_refs hll (RcAt.lists hl hl' hsz (roomE hu) fun j j1 j2 => ?_)
            have := eqAt_rds xs ys A.in1 s vs.toList vs'.toList h4 k4 (roomE1 hu) j (by simpa using j1) (by simpa using j2)
            simpa using this
          · rw [eqEs_other (by omega : xs.length ≠ ys.length)]
            exact EqAt.of_refs hll (RcAt.lists_lengths hl hl' (by simpa using hsz) (roomE hu))
  | .tuple xs, db, A, s, _, _, ra, rb, hu => by
    cases ra with
    | @tuple l o vs n _ h1 h2 h3 h4 =>
      have hl : s.heap.IsTuple l vs := ⟨_, h1, h2, _, h3⟩
      cases rb with
      | none => exact EqAt.tuple_none  hl (roomE hu)
      | bool y => exact EqAt.tuple_bool y hl (roomE hu)
      | int y u => exact EqAt.tuple_int y u hl (roomE hu)
      | str y u => exact EqAt.tuple_str y u hl (roomE hu)
      | list k1 k2 k3 k4 => exact EqAt.tuple_list hl ⟨_, k1, k2, _, k3⟩ (roomE hu)
      | em e => exact EqAt.tuple_em hl e (roomE hu)
      | @tuple l' o' vs' n' ys k1 k2 k3 k4 =>
        have hl' : s.heap.IsTuple l' vs' := ⟨_, k1, k2, _, k3⟩
        have n1 : vs.size = xs.length := by simpa using h4.len
        have n2 : vs'.size = ys.length := by simpa using k4.len
        rw [eqE]
        by_cases hll : l = l'
        · subst hll
          have e : PyData.tuple xs = PyData.tuple ys := Rd.uniq (.tuple xs) (.tuple ys) _ (.tuple h1 h2 h3 h4) (.tuple k1 k2 k3 k4)
          injection e with e
          subst e
          rw [eqEs_refl xs]
          exact EqAt.same _
        · rw [← eqEs_eq xs ys, ← n1, ← n2]
          refine EqAt.of_refs hll (RcAt.tuples hl hl' (roomE hu) fun j j1 j2 => ?_)
          have := eqAt_rds xs ys A.in1 s vs.toList vs'.toList h4 k4 (roomE1 hu) j (by simpa using j1) (by simpa using j2)
          simpa using this
  | .dict _, _, A, s, _, _, ra, rb, hu => by
    cases ra with
    | em e =>
      cases rb with
      | none => exact EqAt.em_none  e (roomE hu)
      | bool y => exact EqAt.em_bool y e (roomE hu)
      | int y u => exact EqAt.em_int y u e (roomE hu)
      | str y u => exact EqAt.em_str y u e (roomE hu)
      | list k1 k2 k3 k4 => exact EqAt.em_list ⟨_, k1, k2, _, k3⟩ e (roomE hu)
      | tuple k1 k2 k3 k4 => exact EqAt.em_tuple ⟨_, k1, k2, _, k3⟩ e (roomE hu)
      | em e2 => exact EqAt.em_em e e2 (roomE hu)
theorem eqAt_rds : ∀ (xs ys : List PyData) (A : Around) (s : Shared) (vs ws : List Value), Rds s.heap vs xs → Rds s.heap ws ys → A.units + PyData.depthAll xs < cLine →
    ∀ j (h1 : j < vs.length) (h2 : j < ws.length), EqAt A s vs[j] ws[j] (pairE xs ys j)
  | [], _, _, _, _, _, ra, _, _, j, h1, _ => by cases ra; exact absurd h1 (Nat.not_lt_zero _)
  | _ :: _, [], _, _, _, _, _, rb, _, j, _, h2 => by cases rb; exact absurd h2 (Nat.not_lt_zero _)
  | x :: xs, y :: ys, A, s, _, _, ra, rb, hu, j, h1, h2 => by
    cases ra with
    | cons r rs =>
      cases rb with
      | cons r' rs' =>
        cases j with
        | zero => exact eqAt_rd x y A s _ _ r r' (roomH hu)
        | succ j => exact eqAt_rds xs ys A s _ _ rs rs' (roomT hu) j (Nat.lt_of_succ_lt_succ h1) (Nat.lt_of_succ_lt_succ h2)
end
theorem RcAt_rd {da db : PyData} {A : Around} {s : Shared} {a b : Value} (ra : Rd s.heap a da) (rb : Rd s.heap b db) (hu : A.units + da.depth < cLine) : RcAt A s a b (eqE da db) := by
  cases ra with
  | none =>
    cases rb with
    | none => exact RcAt.none_none
    | bool y => exact RcAt.none_bool  y
    | int y u => exact RcAt.none_int  y u
    | str y u => exact RcAt.none_str  y u
    | list k1 k2 k3 k4 => exact RcAt.none_list  ⟨_, k1, k2, _, k3⟩ (roomE hu)
    | tuple k1 k2 k3 k4 => exact RcAt.none_tuple  ⟨_, k1, k2, _, k3⟩ (roomE hu)
    | em e => exact RcAt.none_em  e (roomE hu)
  | bool x =>
    cases rb with
    | none => exact RcAt.bool_none x 
    | bool y => exact RcAt.bool_bool x y
    | int y u => exact RcAt.bool_int x y u
    | str y u => exact RcAt.bool_str x y u
    | list k1 k2 k3 k4 => exact RcAt.bool_list x ⟨_, k1, k2, _, k3⟩ (roomE hu)
    | tuple k1 k2 k3 k4 => exact RcAt.bool_tuple x ⟨_, k1, k2, _, k3⟩ (roomE hu)
    | em e => exact RcAt.bool_em x e (roomE hu)
  | int x t =>
    cases rb with
    | none => exact RcAt.int_none x t 
    | bool y => exact RcAt.int_bool x t y
    | int y u => exact RcAt.int_int x t y u
    | str y u => exact RcAt.int_str x t y u
    | list k1 k2 k3 k4 => exact RcAt.int_list x t ⟨_, k1, k2, _, k3⟩ (roomE hu)
    | tuple k1 k2 k3 k4 => exact RcAt.int_tuple x t ⟨_, k1, k2, _, k3⟩ (roomE hu)
    | em e => exact RcAt.int_em x t e (roomE hu)
  | str x t =>
    cases rb with
    | none => exact RcAt.str_none x t 
    | bool y => exact RcAt.str_bool x t y
    | int y u => exact RcAt.str_int x t y u
    | str y u => exact RcAt.str_str x t y u
    | list k1 k2 k3 k4 => exact RcAt.str_list x t ⟨_, k1, k2, _, k3⟩ (roomE hu)
    | tuple k1 k2 k3 k4 => exact RcAt.str_tuple x t ⟨_, k1, k2, _, k3⟩ (roomE hu)
    | em e => exact RcAt.str_em x t e (roomE hu)
  | @list l o vs n xs h1 h2 h3 h4 =>
    have hl : s.heap.IsList l vs := ⟨_, h1, h2, _, h3⟩
    cases rb with
    | none => exact RcAt.list_none  hl (roomE hu)
    | bool y => exact RcAt.list_bool y hl (roomE hu)
    | int y u => exact RcAt.list_int y u hl (roomE hu)
    | str y u => exact RcAt.list_str y u hl (roomE hu)
    | tuple k1 k2 k3 k4 => exact RcAt.list_tuple hl ⟨_, k1, k2, _, k3⟩ (roomE hu)
    | em e => exact RcAt.list_em hl e (roomE hu)
    | @list l' o' vs' n' ys k1 k2 k3 k4 =>
      have hl' : s.heap.IsList l' vs' := ⟨_, k1, k2, _, k3⟩
      have n1 : vs.size = xs.length := by simpa using h4.len
      have n2 : vs'.size = ys.length := by simpa using k4.len
      have he : ∀ j (j1 : j < vs.size) (j2 : j < vs'.size), EqAt A.in1 s vs[j] vs'[j] (pairE xs ys j) := fun j j1 j2 => by
        have := eqAt_rds xs ys A.in1 s vs.toList vs'.toList h4 k4 (roomE1 hu) j (by simpa using j1) (by simpa using j2)
        simpa using this
      rw [eqE]
      by_cases hsz : vs.size = vs'.size
      · rw [← eqEs_len (by omega : xs.length = ys.length), ← n1]
        exact RcAt.lists hl hl' hsz (roomE hu) he
      · rw [eqEs_other (by omega : xs.length ≠ ys.length)]
        exact RcAt.lists_lengths hl hl' (by simpa using hsz) (roomE hu)
  | @tuple l o vs n xs h1 h2 h3 h4 =>
    have hl : s.heap.IsTuple l vs := ⟨_, h1, h2, _, h3⟩
    cases rb with
    | none => exact RcAt.tuple_none  hl (roomE hu)
    | bool y => exact RcAt.tuple_bool y hl (roomE hu)
    | int y u => exact RcAt.tuple_int y u hl (roomE hu)
    | str y u => exact RcAt.tuple_str y u hl (roomE hu)
    | list k1 k2 k3 k4 => exact RcAt.tuple_list hl ⟨_, k1, k2, _, k3⟩ (roomE hu)
    | em e => exact RcAt.tuple_em hl e (roomE hu)
    | @tuple l' o' vs' n' ys k1 k2 k3 k4 =>
      have hl' : s.heap.IsTuple l' vs' := ⟨_, k1, k2, _, k3⟩
      have n1 : vs.size = xs.length := by simpa using h4.len
      have n2 : vs'.size = ys.length := by simpa using k4.len
      have he : ∀ j (j1 : j < vs.size) (j2 : j < vs'.size), EqAt A.in1 s vs[j] vs'[j] (pairE xs ys j) := fun j j1 j2 => by
        have := eqAt_rds xs ys A.in1 s vs.toList vs'.toList h4 k4 (roomE1 hu) j (by simpa using j1) (by simpa using j2)
        simpa using this
      rw [eqE]
      rw [← eqEs_eq xs ys, ← n1, ← n2]
      exact RcAt.tuples hl hl' (roomE hu) he
  | em e =>
    cases rb with
    | none => exact RcAt.em_none  e (roomE hu)
    | bool y => exact RcAt.em_bool y e (roomE hu)
    | int y u => exact RcAt.em_int y u e (roomE hu)
    | str y u => exact RcAt.em_str y u e (roomE hu)
    | list k1 k2 k3 k4 => exact RcAt.em_list ⟨_, k1, k2, _, k3⟩ e (roomE hu)
    | tuple k1 k2 k3 k4 => exact RcAt.em_tuple ⟨_, k1, k2, _, k3⟩ e (roomE hu)
    | em e2 => exact RcAt.em_em e e2 (roomE hu)
theorem RcNeAt_rd {da db : PyData} {A : Around} {s : Shared} {a b : Value} (ra : Rd s.heap a da) (rb : Rd s.heap b db) (hu : A.units + da.depth < cLine) : RcNeAt A s a b (!eqE da db) := by
  cases ra with
  | none =>
    cases rb with
    | none => exact RcNeAt.none_none
    | bool y => exact RcNeAt.none_bool  y
    | int y u => exact RcNeAt.none_int  y u
    | str y u => exact RcNeAt.none_str  y u
    | list k1 k2 k3 k4 => exact RcNeAt.none_list  ⟨_, k1, k2, _, k3⟩ (roomE hu)
    | tuple k1 k2 k3 k4 => exact RcNeAt.none_tuple  ⟨_, k1, k2, _, k3⟩ (roomE hu)
    | em e => exact RcNeAt.none_em  e (roomE hu)
  | bool x =>
    cases rb with
    | none => exact RcNeAt.bool_none x 
    | bool y => exact RcNeAt.bool_bool x y
    | int y u => exact RcNeAt.bool_int x y u
    | str y u => exact RcNeAt.bool_str x y u
    | list k1 k2 k3 k4 => exact RcNeAt.bool_list x ⟨_, k1, k2, _, k3⟩ (roomE hu)
    | tuple k1 k2 k3 k4 => exact RcNeAt.bool_tuple x ⟨_, k1, k2, _, k3⟩ (roomE hu)
    | em e => exact RcNeAt.bool_em x e (roomE hu)
  | int x t =>
    cases rb with
    | none => exact RcNeAt.int_none x t 
    | bool y => exact RcNeAt.int_bool x t y
    | int y u => exact RcNeAt.int_int x t y u
    | str y u => exact RcNeAt.int_str x t y u
    | list k1 k2 k3 k4 => exact RcNeAt.int_list x t ⟨_, k1, k2, _, k3⟩ (roomE hu)
    | tuple k1 k2 k3 k4 => exact RcNeAt.int_tuple x t ⟨_, k1, k2, _, k3⟩ (roomE hu)
    | em e => exact RcNeAt.int_em x t e (roomE hu)
  | str x t =>
    cases rb with
    | none => exact RcNeAt.str_none x t 
    | bool y => exact RcNeAt.str_bool x t y
    | int y u => exact RcNeAt.str_int x t y u
    | str y u => exact RcNeAt.str_str x t y u
    | list k1 k2 k3 k4 => exact RcNeAt.str_list x t ⟨_, k1, k2, _, k3⟩ (roomE hu)
    | tuple k1 k2 k3 k4 => exact RcNeAt.str_tuple x t ⟨_, k1, k2, _, k3⟩ (roomE hu)
    | em e => exact RcNeAt.str_em x t e (roomE hu)
  | @list l o vs n xs h1 h2 h3 h4 =>
    have hl : s.heap.IsList l vs := ⟨_, h1, h2, _, h3⟩
    cases rb with
    | none => exact RcNeAt.list_none  hl (roomE hu)
    | bool y => exact RcNeAt.list_bool y hl (roomE hu)
    | int y u => exact RcNeAt.list_int y u hl (roomE hu)
    | str y u => exact RcNeAt.list_str y u hl (roomE hu)
    | tuple k1 k2 k3 k4 => exact RcNeAt.list_tuple hl ⟨_, k1, k2, _, k3⟩ (roomE hu)
    | em e => exact RcNeAt.list_em hl e (roomE hu)
    | @list l' o' vs' n' ys k1 k2 k3 k4 =>
      have hl' : s.heap.IsList l' vs' := ⟨_, k1, k2, _, k3⟩
      have n1 : vs.size = xs.length := by simpa using h4.len
      have n2 : vs'.size = ys.length := by simpa using k4.len
      have he : ∀ j (j1 : j < vs.size) (j2 : j < vs'.size), EqAt A.in1 s vs[j] vs'[j] (pairE xs ys j) := fun j j1 j2 => by
        have := eqAt_rds xs ys A.in1 s vs.toList vs'.toList h4 k4 (roomE1 hu) j (by simpa using j1) (by simpa using j2)
        simpa using this
      rw [eqE]
      by_cases hsz : vs.size = vs'.size
      · rw [← eqEs_len (by omega : xs.length = ys.length), ← n1]
        exact RcNeAt.lists hl hl' hsz (roomE hu) he
      · rw [eqEs_other (by omega : xs.length ≠ ys.length)]
        exact RcNeAt.lists_lengths hl hl' (by simpa using hsz) (roomE hu)
  | @tuple l o vs n xs h1 h2 h3 h4 =>
    have hl : s.heap.IsTuple l vs := ⟨_, h1, h2, _, h3⟩
    cases rb with
    | none => exact RcNeAt.tuple_none  hl (roomE hu)
    | bool y => exact RcNeAt.tuple_bool y hl (roomE hu)
    | int y u => exact RcNeAt.tuple_int y u hl (roomE hu)
    | str y u => exact RcNeAt.tuple_str y u hl (roomE hu)
    | list k1 k2 k3 k4 => exact RcNeAt.tuple_list hl ⟨_, k1, k2, _, k3⟩ (roomE hu)
    | em e => exact RcNeAt.tuple_em hl e (roomE hu)
    | @tuple l' o' vs' n' ys k1 k2 k3 k4 =>
      have hl' : s.heap.IsTuple l' vs' := ⟨_, k1, k2, _, k3⟩
      have n1 : vs.size = xs.length := by simpa using h4.len
      have n2 : vs'.size = ys.length := by simpa using k4.len
      have he : ∀ j (j1 : j < vs.size) (j2 : j < vs'.size), EqAt A.in1 s vs[j] vs'[j] (pairE xs ys j) := fun j j1 j2 => by
        have := eqAt_rds xs ys A.in1 s vs.toList vs'.toList h4 k4 (roomE1 hu) j (by simpa using j1) (by simpa using j2)
        simpa using this
      rw [eqE]
      rw [← eqEs_eq xs ys, ← n1, ← n2]
      exact RcNeAt.tuples hl hl' (roomE hu) he
  | em e =>
    cases rb with
    | none => exact RcNeAt.em_none  e (roomE hu)
    | bool y => exact RcNeAt.em_bool y e (roomE hu)
    | int y u => exact RcNeAt.em_int y u e (roomE hu)
    | str y u => exact RcNeAt.em_str y u e (roomE hu)
    | list k1 k2 k3 k4 => exact RcNeAt.em_list ⟨_, k1, k2, _, k3⟩ e (roomE hu)
    | tuple k1 k2 k3 k4 => exact RcNeAt.em_tuple ⟨_, k1, k2, _, k3⟩ e (roomE hu)
    | em e2 => exact RcNeAt.em_em e e2 (roomE hu)
section
variable {X : Cx}
def rEqE (K : PySem.W.Frag) : R2 := fun x y H Q => ∃ d e, DpE K H x d ∧ DpE K H y e ∧ d.depth ≤ 60 ∧ Q (.bl (eqE d e)) H
def rNeE (K : PySem.W.Frag) : R2 := fun x y H Q => ∃ d e, DpE K H x d ∧ DpE K H y e ∧ d.depth ≤ 60 ∧ Q (.bl (!eqE d e)) H
theorem op_eqE (hu : X.A.units + 64 < cLine) : OpR X (compareOp .Eq) (rEqE X.K) := by
  intro pins s σ H x y v u Q I rx ry h
  obtain ⟨d, e, hd, he, hn, q⟩ := h
  exact RcAt_rd (dpe_rd I hd rx) (dpe_rd I he ry) (by omega) X.prog X.w _ _ ⟨.bl _, H, I, rfl, q⟩
theorem op_neE (hu : X.A.units + 64 < cLine) : OpR X (compareOp .NotEq) (rNeE X.K) := by
  intro pins s σ H x y v u Q I rx ry h
  obtain ⟨d, e, hd, he, hn, q⟩ := h
  exact RcNeAt_rd (dpe_rd I hd rx) (dpe_rd I he ry) (by omega) X.prog X.w _ _ ⟨.bl _, H, I, rfl, q⟩
end
end DL
namespace DL
open PySem PySem.Spec L2
open PyProof.Rows hiding St
open PySem.SeqAt
noncomputable def readE (h : Heap) (v : Value) : PyData := open Classical in if hx : ∃ d, Rd h v d then hx.choose else .none
theorem readE_eq {h : Heap} {v : Value} {d : PyData} (r : Rd h v d) : readE h v = d := by
  have hx : ∃ d, Rd h v d := ⟨d, r⟩
  unfold readE
  rw [dif_pos hx]
  exact (Rd.uniq d _ _ r hx.choose_spec).symm
theorem rds_map {h : Heap} : ∀ {xs : List PyData} {vs : List Value}, Rds h vs xs → vs.map (readE h) = xs
  | _, _, .nil => rfl
  | _, _, .cons r1 r2 => by rw [List.map_cons, readE_eq r1, rds_map r2]
theorem rds_mem {h : Heap} : ∀ {xs : List PyData} {vs : List Value}, Rds h vs xs → ∀ y ∈ vs, ∃ d, Rd h y d ∧ d.depth ≤ PyData.depthAll xs
  | _, _, .nil, y, hy => absurd hy List.not_mem_nil
  | _, _, .cons r1 r2, y, hy => by
    rcases List.mem_cons.mp hy with rfl | hy
    · exact ⟨_, r1, by simp only [PyData.depthAll]; omega⟩
    · obtain ⟨d, rd, hle⟩ := rds_mem r2 y hy
      exact ⟨d, rd, by simp only [PyData.depthAll]; omega⟩
section
variable {A : Around} {s : Shared}
theorem itemsE {vs : Array Value} {xs : List PyData} {x : Value} {d : PyData} (rs : Rds s.heap vs.toList xs) (rx : Rd s.heap x d) (hu : A.units + 1 + PyData.depthAll xs < cLine) : ∀ y, y ∈ vs → EqAt A.in1 s y x (eqE (readE s.heap y) d) := fun y hy => by
  obtain ⟨dy, ry, hle⟩ := rds_mem rs y (by simpa using hy)
  rw [readE_eq ry]
  exact eqAt_rd dy d A.in1 s y x ry rx (by show A.units + 1 + dy.depth < cLine; omega)
theorem anyE {vs : Array Value} {xs : List PyData} {d : PyData} (rs : Rds s.heap vs.toList xs) : vs.any (fun y => eqE (readE s.heap y) d) = xs.any (fun y => eqE y d) := by
  rw [← rds_map rs, List.any_map, ← Array.any_toList]
  rfl
end
def rInE (K : PySem.W.Frag) (neg : Bool) : R2 := fun x y H Q => ∃ (d : PyData) (xs : List PyData), DpE K H x d ∧ (DpE K H y (.list xs) ∨ DpE K H y (.tuple xs)) ∧ PyData.depthAll xs ≤ 60 ∧ Q (.bl (neg ^^ xs.any fun y => eqE y d)) H
section
variable {X : Cx}
theorem op_inE (hu : X.A.units + 64 < cLine) : OpR X (compareOp .In) (rInE X.K false) := by
  intro pins s σ H x y v u Q I rx ry h
  obtain ⟨d, xs, hd, he, hn, q⟩ := h
  have r1 := dpe_rd I hd rx
  rw [Bool.false_xor] at q
  rcases he with he | he
  · have r2 := dpe_rd I he ry
    cases r2 with
    | list h1 h2 h3 h4 => exact in_listAt _ ⟨_, h1, h2, _, h3⟩ (itemsE h4 r1 (by omega)) (by rw [anyE h4]; exact ⟨.bl _, H, I, rfl, q⟩)
  · have r2 := dpe_rd I he ry
    cases r2 with
    | tuple h1 h2 h3 h4 => exact in_tupleAt _ ⟨_, h1, h2, _, h3⟩ (itemsE h4 r1 (by omega)) (by rw [anyE h4]; exact ⟨.bl _, H, I, rfl, q⟩)
theorem op_notInE (hu : X.A.units + 64 < cLine) : OpR X (compareOp .NotIn) (rInE X.K true) := by
  intro pins s σ H x y v u Q I rx ry h
  obtain ⟨d, xs, hd, he, hn, q⟩ := h
  have r1 := dpe_rd I hd rx
  rw [Bool.true_xor] at q
  rcases he with he | he
  · have r2 := dpe_rd I he ry
    cases r2 with
    | list h1 h2 h3 h4 => exact notIn_listAt _ ⟨_, h1, h2, _, h3⟩ (itemsE h4 r1 (by omega)) (by rw [anyE h4]; exact ⟨.bl _, H, I, rfl, q⟩)
  · have r2 := dpe_rd I he ry
    cases r2 with
    | tuple h1 h2 h3 h4 => exact notIn_tupleAt _ ⟨_, h1, h2, _, h3⟩ (itemsE h4 r1 (by omega)) (by rw [anyE h4]; exact ⟨.bl _, H, I, rfl, q⟩)
end
def D.okE (d : D) : Bool := d.can && decide (PyData.depth d.py ≤ 60)
def gEqE : D → D → Option (Nat × D)
  | .int i, .int j => some (0, .bl (decide (i = j)))
  | .bl i, .bl j => some (0, .bl (decide (i = j)))
  | .str i, .str j => some (0, .bl (decide (i = j)))
  | d, e => if d.okE && e.okE then some (0, .bl (eqE d.py e.py)) else none
def gNeE : D → D → Option (Nat × D)
  | .int i, .int j => some (0, .bl (!decide (i = j)))
  | .bl i, .bl j => some (0, .bl (!decide (i = j)))
  | .str i, .str j => some (0, .bl (!decide (i = j)))
  | d, e => if d.okE && e.okE then some (0, .bl (!eqE d.py e.py)) else none
def gInE : D → D → Option (Nat × D)
  | d, .lst ds => if d.okE && D.cans ds && decide (PyData.depthAll (D.pys ds) ≤ 60) then some (0, .bl (false ^^ (D.pys ds).any fun y => eqE y d.py)) else none
  | d, .tup ds => if d.okE && D.cans ds && decide (PyData.depthAll (D.pys ds) ≤ 60) then some (0, .bl (false ^^ (D.pys ds).any fun y => eqE y d.py)) else none
  | _, _ => none
def gNotInE : D → D → Option (Nat × D)
  | d, .lst ds => if d.okE && D.cans ds && decide (PyData.depthAll (D.pys ds) ≤ 60) then some (0, .bl (true ^^ (D.pys ds).any fun y => eqE y d.py)) else none
  | d, .tup ds => if d.okE && D.cans ds && decide (PyData.depthAll (D.pys ds) ≤ 60) then some (0, .bl (true ^^ (D.pys ds).any fun y => eqE y d.py)) else none
  | _, _ => none
theorem okE_1 {d : D} (h : d.okE = true) : d.can = true := (Bool.and_eq_true_iff.mp h).1
theorem okE_2 {d : D} (h : d.okE = true) : PyData.depth d.py ≤ 60 := of_decide_eq_true (Bool.and_eq_true_iff.mp h).2
def rEqE2 (K : PySem.W.Frag) : R2 := fun x y H Q => rEq x y H Q ∨ rEqE K x y H Q
def rNeE2 (K : PySem.W.Frag) : R2 := fun x y H Q => rNe x y H Q ∨ rNeE K x y H Q
section
variable {K : PySem.W.Frag}
theorem opf_eqE : OpF2 K (rEqE2 K) gEqE := by
  intro H B d v e u Q h1 h2 ok
  unfold gEqE at ok
  split at ok
  · rw [h1.int, h2.int]; exact .inl ⟨rfl, by rw [decInt]; exact ok.bl⟩
  · rw [h1.bl, h2.bl]; exact .inl ⟨rfl, by rw [decBl]; exact ok.bl⟩
  · rw [h1.str, h2.str]; exact .inl ⟨rfl, by rw [decStr]; exact ok.bl⟩
  · split at ok
    · rename_i hc
      simp only [Bool.and_eq_true] at hc
      exact .inr ⟨d.py, e.py, h1.dpe (okE_1 hc.1), h2.dpe (okE_1 hc.2), okE_2 hc.1, ok.bl⟩
    · exact ok.elim
theorem opf_neE : OpF2 K (rNeE2 K) gNeE := by
  intro H B d v e u Q h1 h2 ok
  unfold gNeE at ok
  split at ok
  · rw [h1.int, h2.int]; exact .inl ⟨rfl, by rw [decInt]; exact ok.bl⟩
  · rw [h1.bl, h2.bl]; exact .inl ⟨rfl, by rw [decBl]; exact ok.bl⟩
  · rw [h1.str, h2.str]; exact .inl ⟨rfl, by rw [decStr]; exact ok.bl⟩
  · split at ok
    · rename_i hc
      simp only [Bool.and_eq_true] at hc
      exact .inr ⟨d.py, e.py, h1.dpe (okE_1 hc.1), h2.dpe (okE_1 hc.2), okE_2 hc.1, ok.bl⟩
    · exact ok.elim
theorem opf_inE : OpF2 K (rInE K false) gInE := by
  intro H B d v e u Q h1 h2 ok
  unfold gInE at ok
  split at ok
  · split at ok
    · rename_i ds hc
      simp only [Bool.and_eq_true, decide_eq_true_eq] at hc
      exact ⟨d.py, D.pys ds, h1.dpe (okE_1 hc.1.1), .inl (h2.dpe (by simpa [D.can] using hc.1.2)), hc.2, ok.bl⟩
    · exact ok.elim
  · split at ok
    · rename_i ds hc
      simp only [Bool.and_eq_true, decide_eq_true_eq] at hc
      exact ⟨d.py, D.pys ds, h1.dpe (okE_1 hc.1.1), .inr (h2.dpe (by simpa [D.can] using hc.1.2)), hc.2, ok.bl⟩
    · exact ok.elim
  · exact ok.elim
theorem opf_notInE : OpF2 K (rInE K true) gNotInE := by
  intro H B d v e u Q h1 h2 ok
  unfold gNotInE at ok
  split at ok
  · split at ok
    · rename_i ds hc
      simp only [Bool.and_eq_true, decide_eq_true_eq] at hc
      exact ⟨d.py, D.pys ds, h1.dpe (okE_1 hc.1.1), .inl (h2.dpe (by simpa [D.can] using hc.1.2)), hc.2, ok.bl⟩
    · exact ok.elim
  · split at ok
    · rename_i ds hc
      simp only [Bool.and_eq_true, decide_eq_true_eq] at hc
      exact ⟨d.py, D.pys ds, h1.dpe (okE_1 hc.1.1), .inr (h2.dpe (by simpa [D.can] using hc.1.2)), hc.2, ok.bl⟩
    · exact ok.elim
  · exact ok.elim
end
section
variable {X : Cx} {W : WX} {a b : Expr} {fa fb : EV} {pos : Pos}
theorem op_eqE2 (hu : X.A.units + 64 < cLine) : OpR X (compareOp .Eq) (rEqE2 X.K) := OpR.or op_eq (op_eqE hu)
theorem op_neE2 (hu : X.A.units + 64 < cLine) : OpR X (compareOp .NotEq) (rNeE2 X.K) := OpR.or op_ne (op_neE hu)
theorem d_eqE (hu : X.A.units + 64 < cLine) (ha : DE X W a fa) (hb : DE X W b fb) : DE X W (.Compare a [.Eq] [b] pos) (e2 gEqE fa fb) := de_cmp (op_eqE2 hu) opf_eqE ha hb (nomark _)
theorem d_neE (hu : X.A.units + 64 < cLine) (ha : DE X W a fa) (hb : DE X W b fb) : DE X W (.Compare a [.NotEq] [b] pos) (e2 gNeE fa fb) := de_cmp (op_neE2 hu) opf_neE ha hb (nomark _)
theorem t_eqE (hu : X.A.units + 64 < cLine) (ha : DE X W a fa) (hb : DE X W b fb) : DT X W (.Compare a [.Eq] [b] pos) (tT (e2 gEqE fa fb)) := dt_cmp (op_eqE2 hu) opf_eqE ha hb (nomark _)
theorem t_neE (hu : X.A.units + 64 < cLine) (ha : DE X W a fa) (hb : DE X W b fb) : DT X W (.Compare a [.NotEq] [b] pos) (tT (e2 gNeE fa fb)) := dt_cmp (op_neE2 hu) opf_neE ha hb (nomark _)
theorem d_inE (hu : X.A.units + 64 < cLine) (ha : DE X W a fa) (hb : DE X W b fb) (hm : behindInMarks .In b = false) : DE X W (.Compare a [.In] [b] pos) (e2 gInE fa fb) := de_cmp (op_inE hu) opf_inE ha hb hm
theorem d_notinE (hu : X.A.units + 64 < cLine) (ha : DE X W a fa) (hb : DE X W b fb) (hm : behindInMarks .NotIn b = false) : DE X W (.Compare a [.NotIn] [b] pos) (e2 gNotInE fa fb) := de_cmp (op_notInE hu) opf_notInE ha hb hm
theorem t_inE (hu : X.A.units + 64 < cLine) (ha : DE X W a fa) (hb : DE X W b fb) (hm : behindInMarks .In b = false) : DT X W (.Compare a [.In] [b] pos) (tT (e2 gInE fa fb)) := dt_cmp (op_inE hu) opf_inE ha hb hm
theorem t_notinE (hu : X.A.units + 64 < cLine) (ha : DE X W a fa) (hb : DE X W b fb) (hm : behindInMarks .NotIn b = false) : DT X W (.Compare a [.NotIn] [b] pos) (tT (e2 gNotInE fa fb)) := dt_cmp (op_notInE hu) opf_notInE ha hb hm
end
theorem okE_of {d : D} (h1 : d.can = true) (h2 : PyData.depth d.py ≤ 60) : d.okE = true := by unfold D.okE; rw [h1, decide_eq_true h2]; rfl
theorem gNeE_same {d : D} (h : d.okE = true) : gNeE d d = some (0, .bl false) := by
  unfold gNeE
  split
  · simp
  · simp
  · simp
  · rw [h, eqE_refl]; rfl
theorem gEqE_same {d : D} (h : d.okE = true) : gEqE d d = some (0, .bl true) := by
  unfold gEqE
  split
  · simp
  · simp
  · simp
  · rw [h, eqE_refl]; rfl
theorem gNeE_i {i j : Int} : gNeE (.int i) (.int j) = some (0, .bl (!decide (i = j))) := Eq.trans rfl rfl
theorem gNeE_b {i j : Bool} : gNeE (.bl i) (.bl j) = some (0, .bl (!decide (i = j))) := Eq.trans rfl rfl
theorem gNeE_s {i j : Str} : gNeE (.str i) (.str j) = some (0, .bl (!decide (i = j))) := Eq.trans rfl rfl
theorem gEqE_i {i j : Int} : gEqE (.int i) (.int j) = some (0, .bl (decide (i = j))) := Eq.trans rfl rfl
theorem gEqE_b {i j : Bool} : gEqE (.bl i) (.bl j) = some (0, .bl (decide (i = j))) := Eq.trans rfl rfl
theorem gEqE_s {i j : Str} : gEqE (.str i) (.str j) = some (0, .bl (decide (i = j))) := Eq.trans rfl rfl
end DL
namespace DL
open PySem PySem.Spec L2
open PyProof.Rows hiding St
def top (i : Nat) : Stmt := PySem.Challenge.pw_treeasks_k23_what_are_prices.main.body.getD i (.Pass ⟨0, 0, 0, 0⟩)
def tk_NoPrices : List (Str × Bool) := [("AskError", false), ("NoNumber", false), ("NoTree", false), ("NoAsks", false), ("NoKeep", false), ("NoPrices", true), ("NoShare", false), ("NoPointing", false), ("NoText", false), ("NoPlace", false), ("NoChange", false), ("TooMany", false), ("NoRow", false), ("NoName", false)]
def tk_NoAsks : List (Str × Bool) := [("AskError", false), ("NoNumber", false), ("NoTree", false), ("NoAsks", true), ("NoKeep", false), ("NoPrices", false), ("NoShare", false), ("NoPointing", false), ("NoText", false), ("NoPlace", false), ("NoChange", false), ("TooMany", false), ("NoRow", false), ("NoName", false)]
def tk_NoTree : List (Str × Bool) := [("AskError", false), ("NoNumber", false), ("NoTree", true), ("NoAsks", false), ("NoKeep", false), ("NoPrices", false), ("NoShare", false), ("NoPointing", false), ("NoText", false), ("NoPlace", false), ("NoChange", false), ("TooMany", false), ("NoRow", false), ("NoName", false)]
def tk_NoChange_TooMany_NoRow_NoName : List (Str × Bool) := [("AskError", false), ("NoNumber", false), ("NoTree", false), ("NoAsks", false), ("NoKeep", false), ("NoPrices", false), ("NoShare", false), ("NoPointing", false), ("NoText", false), ("NoPlace", false), ("NoChange", true), ("TooMany", true), ("NoRow", true), ("NoName", true)]
def tk_NoKeep_NoShare_NoPointing_NoText_NoNumber_NoPlace : List (Str × Bool) := [("AskError", false), ("NoNumber", true), ("NoTree", false), ("NoAsks", false), ("NoKeep", true), ("NoPrices", false), ("NoShare", true), ("NoPointing", true), ("NoText", true), ("NoPlace", true), ("NoChange", false), ("TooMany", false), ("NoRow", false), ("NoName", false)]
def tk_ValueError : List (Str × Bool) := [("AskError", true), ("NoNumber", true), ("NoTree", true), ("NoAsks", true), ("NoKeep", true), ("NoPrices", true), ("NoShare", true), ("NoPointing", true), ("NoText", true), ("NoPlace", true), ("NoChange", true), ("TooMany", true), ("NoRow", true), ("NoName", true)]
def te_AskError : List (Str × Bool) := [("AskError", true), ("NoNumber", true), ("NoTree", true), ("NoAsks", true), ("NoKeep", true), ("NoPrices", true), ("NoShare", true), ("NoPointing", true), ("NoText", true), ("NoPlace", true), ("NoChange", true), ("TooMany", true), ("NoRow", true), ("NoName", true)]
def cl_number : List Str := ["NoTree", "NoAsks", "NoKeep", "NoPrices", "NoShare"]
abbrev s_ini_NoTree : Stmt := clsAt (top 3) 0
abbrev s_ini_NoPrices : Stmt := clsAt (top 6) 0
abbrev s_is_whole : Stmt := top 16
abbrev s_divisor : Stmt := top 17
abbrev s_is_fraction : Stmt := top 18
abbrev s_is_parent : Stmt := top 22
abbrev s_is_room : Stmt := top 23
abbrev s_are_two_lists : Stmt := top 24
abbrev s_look_at_tree : Stmt := top 25
abbrev s_look_at_prices : Stmt := top 27
abbrev s__law_cell : Stmt := top 29
abbrev s__law_source : Stmt := top 30
abbrev s__law_draw : Stmt := top 31
abbrev s__law_tree : Stmt := top 32
abbrev s__law_lowest : Stmt := top 33
abbrev s__law_price : Stmt := top 34
abbrev s__law_odd : Stmt := top 35
abbrev s__law_thing : Stmt := top 36
abbrev s__law_whole : Stmt := top 37
abbrev s__law_is_price : Stmt := top 38
abbrev s__law_due : Stmt := top 39
abbrev s__law_kind : Stmt := top 40
abbrev s__law_told : Stmt := top 41
abbrev s_law : Stmt := top 42
def fns : List He.DefD := [⟨("is_whole", none), "is_whole", "is_whole", defArgs s_is_whole, defBody s_is_whole, defScope s_is_whole, [], []⟩, ⟨("divisor", none), "divisor", "divisor", defArgs s_divisor, defBody s_divisor, defScope s_divisor, [], []⟩, ⟨("is_fraction", none), "is_fraction", "is_fraction", defArgs s_is_fraction, defBody s_is_fraction, defScope s_is_fraction, [], []⟩, ⟨("is_parent", none), "is_parent", "is_parent", defArgs s_is_parent, defBody s_is_parent, defScope s_is_parent, [], []⟩, ⟨("is_room", none), "is_room", "is_room", defArgs s_is_room, defBody s_is_room, defScope s_is_room, [], []⟩, ⟨("are_two_lists", none), "are_two_lists", "are_two_lists", defArgs s_are_two_lists, defBody s_are_two_lists, defScope s_are_two_lists, [], []⟩, ⟨("look_at_tree", none), "look_at_tree", "look_at_tree", defArgs s_look_at_tree, defBody s_look_at_tree, defScope s_look_at_tree, [], []⟩, ⟨("look_at_prices", none), "look_at_prices", "look_at_prices", defArgs s_look_at_prices, defBody s_look_at_prices, defScope s_look_at_prices, [], []⟩, ⟨("_law_cell", none), "_law_cell", "_law_cell", defArgs s__law_cell, defBody s__law_cell, defScope s__law_cell, [], []⟩, ⟨("_law_source", none), "_law_source", "_law_source", defArgs s__law_source, defBody s__law_source, defScope s__law_source, [], []⟩, ⟨("_law_draw", none), "_law_draw", "_law_draw", defArgs s__law_draw, defBody s__law_draw, defScope s__law_draw, [], []⟩, ⟨("_law_tree", none), "_law_tree", "_law_tree", defArgs s__law_tree, defBody s__law_tree, defScope s__law_tree, [], []⟩, ⟨("_law_lowest", none), "_law_lowest", "_law_lowest", defArgs s__law_lowest, defBody s__law_lowest, defScope s__law_lowest, [], []⟩, ⟨("_law_price", none), "_law_price", "_law_price", defArgs s__law_price, defBody s__law_price, defScope s__law_price, [], []⟩, ⟨("_law_odd", none), "_law_odd", "_law_odd", defArgs s__law_odd, defBody s__law_odd, defScope s__law_odd, [], []⟩, ⟨("_law_thing", none), "_law_thing", "_law_thing", defArgs s__law_thing, defBody s__law_thing, defScope s__law_thing, [], []⟩, ⟨("_law_whole", none), "_law_whole", "_law_whole", defArgs s__law_whole, defBody s__law_whole, defScope s__law_whole, [], []⟩, ⟨("_law_is_price", none), "_law_is_price", "_law_is_price", defArgs s__law_is_price, defBody s__law_is_price, defScope s__law_is_price, [], []⟩, ⟨("_law_due", none), "_law_due", "_law_due", defArgs s__law_due, defBody s__law_due, defScope s__law_due, [], []⟩, ⟨("_law_kind", none), "_law_kind", "_law_kind", defArgs s__law_kind, defBody s__law_kind, defScope s__law_kind, [], []⟩, ⟨("_law_told", none), "_law_told", "_law_told", defArgs s__law_told, defBody s__law_told, defScope s__law_told, [], []⟩, ⟨("law", none), "law", "law", defArgs s_law, defBody s_law, defScope s_law, [], []⟩, ⟨("NoTree", some "__init__"), "__init__", "NoTree.__init__", defArgs s_ini_NoTree, defBody s_ini_NoTree, defScope s_ini_NoTree, [], []⟩, ⟨("NoPrices", some "__init__"), "__init__", "NoPrices.__init__", defArgs s_ini_NoPrices, defBody s_ini_NoPrices, defScope s_ini_NoPrices, [], []⟩]
def fas : List He.Fa := [.glo "is_whole", .glo "divisor", .glo "is_fraction", .glo "is_parent", .glo "is_room", .glo "are_two_lists", .glo "look_at_tree", .glo "look_at_prices", .glo "_law_cell", .glo "_law_source", .glo "_law_draw", .glo "_law_tree", .glo "_law_lowest", .glo "_law_price", .glo "_law_odd", .glo "_law_thing", .glo "_law_whole", .glo "_law_is_price", .glo "_law_due", .glo "_law_kind", .glo "_law_told", .glo "law", .int "GREATEST_ROOM" 1000000, .int "MOST_TIES" 23, .free "ValueError", .free "abs", .free "bool", .free "enumerate", .free "int", .free "isinstance", .free "len", .free "list", .free "max", .free "min", .free "range", .free "tuple", .glo "NoTree", .glo "NoPrices", .glo "NoAsks", .glo "NoChange", .glo "TooMany", .glo "NoRow", .glo "NoName", .glo "NoKeep", .glo "NoShare", .glo "NoPointing", .glo "NoText", .glo "NoNumber", .glo "NoPlace", .glo "AskError"]
def fxs : List Fx := [.kit tk_NoPrices [(.own "NoPrices")], .kit tk_NoAsks [(.own "NoAsks")], .kit tk_NoTree [(.own "NoTree")], .kit tk_NoChange_TooMany_NoRow_NoName [(.own "NoChange"), (.own "TooMany"), (.own "NoRow"), (.own "NoName")], .kit tk_NoKeep_NoShare_NoPointing_NoText_NoNumber_NoPlace [(.own "NoKeep"), (.own "NoShare"), (.own "NoPointing"), (.own "NoText"), (.own "NoNumber"), (.own "NoPlace")], .kit tk_ValueError [(.blt "ValueError")], .att cl_number "number", .exm te_AskError (.own "AskError"), .bai "AskError", .ini "NoTree" ["part", "number"], .ini "NoPrices" ["number"]]
abbrev R : PySem.W.OpenRow := PySem.W.OpenLaw.row PySem.Challenge.rw_treeasks_k23_what_are_prices
abbrev hk : PySem.W.Hook := hookM 5 fas fns fxs
def ob (s : PySem.W.SharedT) : AlM := obsM 5 fas fns fxs (HandSHeadRun.getT s)
theorem ob_eq (s : PySem.W.SharedT) : ob s = hk.obs s.abs := obsM_eq (HandSHeadRun.getT_eq s)
def names : List PySem.Str := (["AskError", "NoNumber", "NoTree", "NoAsks", "NoKeep", "NoPrices", "NoShare", "NoPointing", "NoText", "NoPlace", "NoChange", "TooMany", "NoRow", "NoName", "is_whole", "divisor", "is_fraction", "MOST_TIES", "GREATEST_ROOM", "is_parent", "is_room", "are_two_lists", "look_at_tree", "look_at_prices", "_law_cell", "_law_source", "_law_draw", "_law_tree", "_law_lowest", "_law_price"] : List PySem.Str) ++ (["_law_odd", "_law_thing", "_law_whole", "_law_is_price", "_law_due", "_law_kind", "_law_told"] : List PySem.Str)
theorem run (w : World) : HandSHeadRun.RunEq R (PySem.W.view R.prog [42]) hk ob 11180 names w := by
  intro os
  kernel_rfl
theorem rk_tk_NoPrices_AskError : lookD "AskError" tk_NoPrices = some false := Eq.trans rfl rfl
theorem rk_tk_NoPrices_NoNumber : lookD "NoNumber" tk_NoPrices = some false := Eq.trans rfl rfl
theorem rk_tk_NoPrices_NoTree : lookD "NoTree" tk_NoPrices = some false := Eq.trans rfl rfl
theorem rk_tk_NoPrices_NoAsks : lookD "NoAsks" tk_NoPrices = some false := Eq.trans rfl rfl
theorem rk_tk_NoPrices_NoKeep : lookD "NoKeep" tk_NoPrices = some false := Eq.trans rfl rfl
theorem rk_tk_NoPrices_NoPrices : lookD "NoPrices" tk_NoPrices = some true := Eq.trans rfl rfl
theorem rk_tk_NoPrices_NoShare : lookD "NoShare" tk_NoPrices = some false := Eq.trans rfl rfl
theorem rk_tk_NoPrices_NoPointing : lookD "NoPointing" tk_NoPrices = some false := Eq.trans rfl rfl
theorem rk_tk_NoPrices_NoText : lookD "NoText" tk_NoPrices = some false := Eq.trans rfl rfl
theorem rk_tk_NoPrices_NoPlace : lookD "NoPlace" tk_NoPrices = some false := Eq.trans rfl rfl
theorem rk_tk_NoPrices_NoChange : lookD "NoChange" tk_NoPrices = some false := Eq.trans rfl rfl
theorem rk_tk_NoPrices_TooMany : lookD "TooMany" tk_NoPrices = some false := Eq.trans rfl rfl
theorem rk_tk_NoPrices_NoRow : lookD "NoRow" tk_NoPrices = some false := Eq.trans rfl rfl
theorem rk_tk_NoPrices_NoName : lookD "NoName" tk_NoPrices = some false := Eq.trans rfl rfl
theorem rk_tk_NoAsks_AskError : lookD "AskError" tk_NoAsks = some false := Eq.trans rfl rfl
theorem rk_tk_NoAsks_NoNumber : lookD "NoNumber" tk_NoAsks = some false := Eq.trans rfl rfl
theorem rk_tk_NoAsks_NoTree : lookD "NoTree" tk_NoAsks = some false := Eq.trans rfl rfl
theorem rk_tk_NoAsks_NoAsks : lookD "NoAsks" tk_NoAsks = some true := Eq.trans rfl rfl
theorem rk_tk_NoAsks_NoKeep : lookD "NoKeep" tk_NoAsks = some false := Eq.trans rfl rfl
theorem rk_tk_NoAsks_NoPrices : lookD "NoPrices" tk_NoAsks = some false := Eq.trans rfl rfl
theorem rk_tk_NoAsks_NoShare : lookD "NoShare" tk_NoAsks = some false := Eq.trans rfl rfl
theorem rk_tk_NoAsks_NoPointing : lookD "NoPointing" tk_NoAsks = some false := Eq.trans rfl rfl
theorem rk_tk_NoAsks_NoText : lookD "NoText" tk_NoAsks = some false := Eq.trans rfl rfl
theorem rk_tk_NoAsks_NoPlace : lookD "NoPlace" tk_NoAsks = some false := Eq.trans rfl rfl
theorem rk_tk_NoAsks_NoChange : lookD "NoChange" tk_NoAsks = some false := Eq.trans rfl rfl
theorem rk_tk_NoAsks_TooMany : lookD "TooMany" tk_NoAsks = some false := Eq.trans rfl rfl
theorem rk_tk_NoAsks_NoRow : lookD "NoRow" tk_NoAsks = some false := Eq.trans rfl rfl
theorem rk_tk_NoAsks_NoName : lookD "NoName" tk_NoAsks = some false := Eq.trans rfl rfl
theorem rk_tk_NoTree_AskError : lookD "AskError" tk_NoTree = some false := Eq.trans rfl rfl
theorem rk_tk_NoTree_NoNumber : lookD "NoNumber" tk_NoTree = some false := Eq.trans rfl rfl
theorem rk_tk_NoTree_NoTree : lookD "NoTree" tk_NoTree = some true := Eq.trans rfl rfl
theorem rk_tk_NoTree_NoAsks : lookD "NoAsks" tk_NoTree = some false := Eq.trans rfl rfl
theorem rk_tk_NoTree_NoKeep : lookD "NoKeep" tk_NoTree = some false := Eq.trans rfl rfl
theorem rk_tk_NoTree_NoPrices : lookD "NoPrices" tk_NoTree = some false := Eq.trans rfl rfl
theorem rk_tk_NoTree_NoShare : lookD "NoShare" tk_NoTree = some false := Eq.trans rfl rfl
theorem rk_tk_NoTree_NoPointing : lookD "NoPointing" tk_NoTree = some false := Eq.trans rfl rfl
theorem rk_tk_NoTree_NoText : lookD "NoText" tk_NoTree = some false := Eq.trans rfl rfl
theorem rk_tk_NoTree_NoPlace : lookD "NoPlace" tk_NoTree = some false := Eq.trans rfl rfl
theorem rk_tk_NoTree_NoChange : lookD "NoChange" tk_NoTree = some false := Eq.trans rfl rfl
theorem rk_tk_NoTree_TooMany : lookD "TooMany" tk_NoTree = some false := Eq.trans rfl rfl
theorem rk_tk_NoTree_NoRow : lookD "NoRow" tk_NoTree = some false := Eq.trans rfl rfl
theorem rk_tk_NoTree_NoName : lookD "NoName" tk_NoTree = some false := Eq.trans rfl rfl
theorem rk_tk_NoChange_TooMany_NoRow_NoName_AskError : lookD "AskError" tk_NoChange_TooMany_NoRow_NoName = some false := Eq.trans rfl rfl
theorem rk_tk_NoChange_TooMany_NoRow_NoName_NoNumber : lookD "NoNumber" tk_NoChange_TooMany_NoRow_NoName = some false := Eq.trans rfl rfl
theorem rk_tk_NoChange_TooMany_NoRow_NoName_NoTree : lookD "NoTree" tk_NoChange_TooMany_NoRow_NoName = some false := Eq.trans rfl rfl
theorem rk_tk_NoChange_TooMany_NoRow_NoName_NoAsks : lookD "NoAsks" tk_NoChange_TooMany_NoRow_NoName = some false := Eq.trans rfl rfl
theorem rk_tk_NoChange_TooMany_NoRow_NoName_NoKeep : lookD "NoKeep" tk_NoChange_TooMany_NoRow_NoName = some false := Eq.trans rfl rfl
theorem rk_tk_NoChange_TooMany_NoRow_NoName_NoPrices : lookD "NoPrices" tk_NoChange_TooMany_NoRow_NoName = some false := Eq.trans rfl rfl
theorem rk_tk_NoChange_TooMany_NoRow_NoName_NoShare : lookD "NoShare" tk_NoChange_TooMany_NoRow_NoName = some false := Eq.trans rfl rfl
theorem rk_tk_NoChange_TooMany_NoRow_NoName_NoPointing : lookD "NoPointing" tk_NoChange_TooMany_NoRow_NoName = some false := Eq.trans rfl rfl
theorem rk_tk_NoChange_TooMany_NoRow_NoName_NoText : lookD "NoText" tk_NoChange_TooMany_NoRow_NoName = some false := Eq.trans rfl rfl
theorem rk_tk_NoChange_TooMany_NoRow_NoName_NoPlace : lookD "NoPlace" tk_NoChange_TooMany_NoRow_NoName = some false := Eq.trans rfl rfl
theorem rk_tk_NoChange_TooMany_NoRow_NoName_NoChange : lookD "NoChange" tk_NoChange_TooMany_NoRow_NoName = some true := Eq.trans rfl rfl
theorem rk_tk_NoChange_TooMany_NoRow_NoName_TooMany : lookD "TooMany" tk_NoChange_TooMany_NoRow_NoName = some true := Eq.trans rfl rfl
theorem rk_tk_NoChange_TooMany_NoRow_NoName_NoRow : lookD "NoRow" tk_NoChange_TooMany_NoRow_NoName = some true := Eq.trans rfl rfl
theorem rk_tk_NoChange_TooMany_NoRow_NoName_NoName : lookD "NoName" tk_NoChange_TooMany_NoRow_NoName = some true := Eq.trans rfl rfl
theorem rk_tk_NoKeep_NoShare_NoPointing_NoText_NoNumber_NoPlace_AskError : lookD "AskError" tk_NoKeep_NoShare_NoPointing_NoText_NoNumber_NoPlace = some false := Eq.trans rfl rfl
theorem rk_tk_NoKeep_NoShare_NoPointing_NoText_NoNumber_NoPlace_NoNumber : lookD "NoNumber" tk_NoKeep_NoShare_NoPointing_NoText_NoNumber_NoPlace = some true := Eq.trans rfl rfl
theorem rk_tk_NoKeep_NoShare_NoPointing_NoText_NoNumber_NoPlace_NoTree : lookD "NoTree" tk_NoKeep_NoShare_NoPointing_NoText_NoNumber_NoPlace = some false := Eq.trans rfl rfl
theorem rk_tk_NoKeep_NoShare_NoPointing_NoText_NoNumber_NoPlace_NoAsks : lookD "NoAsks" tk_NoKeep_NoShare_NoPointing_NoText_NoNumber_NoPlace = some false := Eq.trans rfl rfl
theorem rk_tk_NoKeep_NoShare_NoPointing_NoText_NoNumber_NoPlace_NoKeep : lookD "NoKeep" tk_NoKeep_NoShare_NoPointing_NoText_NoNumber_NoPlace = some true := Eq.trans rfl rfl
theorem rk_tk_NoKeep_NoShare_NoPointing_NoText_NoNumber_NoPlace_NoPrices : lookD "NoPrices" tk_NoKeep_NoShare_NoPointing_NoText_NoNumber_NoPlace = some false := Eq.trans rfl rfl
theorem rk_tk_NoKeep_NoShare_NoPointing_NoText_NoNumber_NoPlace_NoShare : lookD "NoShare" tk_NoKeep_NoShare_NoPointing_NoText_NoNumber_NoPlace = some true := Eq.trans rfl rfl
theorem rk_tk_NoKeep_NoShare_NoPointing_NoText_NoNumber_NoPlace_NoPointing : lookD "NoPointing" tk_NoKeep_NoShare_NoPointing_NoText_NoNumber_NoPlace = some true := Eq.trans rfl rfl
theorem rk_tk_NoKeep_NoShare_NoPointing_NoText_NoNumber_NoPlace_NoText : lookD "NoText" tk_NoKeep_NoShare_NoPointing_NoText_NoNumber_NoPlace = some true := Eq.trans rfl rfl
theorem rk_tk_NoKeep_NoShare_NoPointing_NoText_NoNumber_NoPlace_NoPlace : lookD "NoPlace" tk_NoKeep_NoShare_NoPointing_NoText_NoNumber_NoPlace = some true := Eq.trans rfl rfl
theorem rk_tk_NoKeep_NoShare_NoPointing_NoText_NoNumber_NoPlace_NoChange : lookD "NoChange" tk_NoKeep_NoShare_NoPointing_NoText_NoNumber_NoPlace = some false := Eq.trans rfl rfl
theorem rk_tk_NoKeep_NoShare_NoPointing_NoText_NoNumber_NoPlace_TooMany : lookD "TooMany" tk_NoKeep_NoShare_NoPointing_NoText_NoNumber_NoPlace = some false := Eq.trans rfl rfl
theorem rk_tk_NoKeep_NoShare_NoPointing_NoText_NoNumber_NoPlace_NoRow : lookD "NoRow" tk_NoKeep_NoShare_NoPointing_NoText_NoNumber_NoPlace = some false := Eq.trans rfl rfl
theorem rk_tk_NoKeep_NoShare_NoPointing_NoText_NoNumber_NoPlace_NoName : lookD "NoName" tk_NoKeep_NoShare_NoPointing_NoText_NoNumber_NoPlace = some false := Eq.trans rfl rfl
theorem rk_tk_ValueError_AskError : lookD "AskError" tk_ValueError = some true := Eq.trans rfl rfl
theorem rk_tk_ValueError_NoNumber : lookD "NoNumber" tk_ValueError = some true := Eq.trans rfl rfl
theorem rk_tk_ValueError_NoTree : lookD "NoTree" tk_ValueError = some true := Eq.trans rfl rfl
theorem rk_tk_ValueError_NoAsks : lookD "NoAsks" tk_ValueError = some true := Eq.trans rfl rfl
theorem rk_tk_ValueError_NoKeep : lookD "NoKeep" tk_ValueError = some true := Eq.trans rfl rfl
theorem rk_tk_ValueError_NoPrices : lookD "NoPrices" tk_ValueError = some true := Eq.trans rfl rfl
theorem rk_tk_ValueError_NoShare : lookD "NoShare" tk_ValueError = some true := Eq.trans rfl rfl
theorem rk_tk_ValueError_NoPointing : lookD "NoPointing" tk_ValueError = some true := Eq.trans rfl rfl
theorem rk_tk_ValueError_NoText : lookD "NoText" tk_ValueError = some true := Eq.trans rfl rfl
theorem rk_tk_ValueError_NoPlace : lookD "NoPlace" tk_ValueError = some true := Eq.trans rfl rfl
theorem rk_tk_ValueError_NoChange : lookD "NoChange" tk_ValueError = some true := Eq.trans rfl rfl
theorem rk_tk_ValueError_TooMany : lookD "TooMany" tk_ValueError = some true := Eq.trans rfl rfl
theorem rk_tk_ValueError_NoRow : lookD "NoRow" tk_ValueError = some true := Eq.trans rfl rfl
theorem rk_tk_ValueError_NoName : lookD "NoName" tk_ValueError = some true := Eq.trans rfl rfl
theorem rk_te_AskError_AskError : lookD "AskError" te_AskError = some true := Eq.trans rfl rfl
theorem rk_te_AskError_NoNumber : lookD "NoNumber" te_AskError = some true := Eq.trans rfl rfl
theorem rk_te_AskError_NoTree : lookD "NoTree" te_AskError = some true := Eq.trans rfl rfl
theorem rk_te_AskError_NoAsks : lookD "NoAsks" te_AskError = some true := Eq.trans rfl rfl
theorem rk_te_AskError_NoKeep : lookD "NoKeep" te_AskError = some true := Eq.trans rfl rfl
theorem rk_te_AskError_NoPrices : lookD "NoPrices" te_AskError = some true := Eq.trans rfl rfl
theorem rk_te_AskError_NoShare : lookD "NoShare" te_AskError = some true := Eq.trans rfl rfl
theorem rk_te_AskError_NoPointing : lookD "NoPointing" te_AskError = some true := Eq.trans rfl rfl
theorem rk_te_AskError_NoText : lookD "NoText" te_AskError = some true := Eq.trans rfl rfl
theorem rk_te_AskError_NoPlace : lookD "NoPlace" te_AskError = some true := Eq.trans rfl rfl
theorem rk_te_AskError_NoChange : lookD "NoChange" te_AskError = some true := Eq.trans rfl rfl
theorem rk_te_AskError_TooMany : lookD "TooMany" te_AskError = some true := Eq.trans rfl rfl
theorem rk_te_AskError_NoRow : lookD "NoRow" te_AskError = some true := Eq.trans rfl rfl
theorem rk_te_AskError_NoName : lookD "NoName" te_AskError = some true := Eq.trans rfl rfl
theorem rk_cl_number_NoTree : hasD "NoTree" cl_number = true := Eq.trans rfl rfl
theorem rk_f_cl_number_NoTree {d0 d1 : D} : fldD "number" ["number", "part"] [d0, d1] = some d0 := Eq.trans rfl rfl
theorem rk_cl_number_NoAsks : hasD "NoAsks" cl_number = true := Eq.trans rfl rfl
theorem rk_f_cl_number_NoAsks {d0 : D} : fldD "number" ["number"] [d0] = some d0 := Eq.trans rfl rfl
theorem rk_cl_number_NoKeep : hasD "NoKeep" cl_number = true := Eq.trans rfl rfl
theorem rk_f_cl_number_NoKeep {d0 : D} : fldD "number" ["number"] [d0] = some d0 := Eq.trans rfl rfl
theorem rk_cl_number_NoPrices : hasD "NoPrices" cl_number = true := Eq.trans rfl rfl
theorem rk_f_cl_number_NoPrices {d0 : D} : fldD "number" ["number"] [d0] = some d0 := Eq.trans rfl rfl
theorem rk_cl_number_NoShare : hasD "NoShare" cl_number = true := Eq.trans rfl rfl
theorem rk_f_cl_number_NoShare {d0 : D} : fldD "number" ["number"] [d0] = some d0 := Eq.trans rfl rfl
theorem sc_ini_NoTree : FnScope ["self", "part", "number"] ["self", "part", "number"] (defScope s_ini_NoTree) := ⟨rfl, rfl, rfl, by decide +kernel, rfl, by decide +kernel, by decide +kernel⟩
theorem xi_NoTree {P : Program} {w : World} {K : PySem.W.Frag} {mg : Str → Option Value} {base : Heap} {fd : FuncData} (F : FunD K "__init__" "NoTree.__init__" (defArgs s_ini_NoTree) (defBody s_ini_NoTree) (defScope s_ini_NoTree) [] [] (He.ma K (He.ga K "NoTree") "__init__") fd)
    (g : mg "NoTree" = some (.ref (He.ga K "NoTree"))) (gB : mg "AskError" = some (.ref (He.ga K "AskError"))) (hI : (Fx.ini "NoTree" ["part", "number"]).ok K = true) (hB : (Fx.bai "AskError").ok K = true) : XI P w K mg base 1 "NoTree" ["part", "number"] := by
  refine xi_of F g (fx_ini hI) (fun _ _ _ _ _ _ us hl => match us, hl with | [_, _, _], _ => rfl) sc_ini_NoTree rfl fun cdv A outer s H E => ?_
  have sc := sc_ini_NoTree
  exact ⟨_, pss_cons (ps_expr (pe_bai (by rfl) gB (fx_bai hB) (pa_cons (pv 0) (pa_cons pe_str pa_nil)))) (pss_cons (ps_ost (pv 0) (pv 1)) (pss_cons (ps_ost (pv 0) (pv 2)) pss_nil)), ini2⟩
theorem sc_ini_NoPrices : FnScope ["self", "number"] ["self", "number"] (defScope s_ini_NoPrices) := ⟨rfl, rfl, rfl, by decide +kernel, rfl, by decide +kernel, by decide +kernel⟩
theorem xi_NoPrices {P : Program} {w : World} {K : PySem.W.Frag} {mg : Str → Option Value} {base : Heap} {fd : FuncData} (F : FunD K "__init__" "NoPrices.__init__" (defArgs s_ini_NoPrices) (defBody s_ini_NoPrices) (defScope s_ini_NoPrices) [] [] (He.ma K (He.ga K "NoPrices") "__init__") fd)
    (g : mg "NoPrices" = some (.ref (He.ga K "NoPrices"))) (gB : mg "AskError" = some (.ref (He.ga K "AskError"))) (hI : (Fx.ini "NoPrices" ["number"]).ok K = true) (hB : (Fx.bai "AskError").ok K = true) : XI P w K mg base 1 "NoPrices" ["number"] := by
  refine xi_of F g (fx_ini hI) (fun _ _ _ _ _ _ us hl => match us, hl with | [_, _], _ => rfl) sc_ini_NoPrices rfl fun cdv A outer s H E => ?_
  have sc := sc_ini_NoPrices
  exact ⟨_, pss_cons (ps_expr (pe_bai (by rfl) gB (fx_bai hB) (pa_cons (pv 0) (pa_cons pe_str pa_nil)))) (pss_cons (ps_ost (pv 0) (pv 1)) pss_nil), ini1⟩
noncomputable def b_is_whole : SV := (sSeq (sRet (eAnd (e1 (gIsi "int") (eVar 0)) (eNot (e1 (gIsi "bool") (eVar 0)))))
  sNext)
noncomputable def phi_is_whole : FV := runF [0] 1 b_is_whole
theorem sc_is_whole : FnScope ["thing"] ["thing"] (defScope s_is_whole) := ⟨rfl, rfl, rfl, by decide +kernel, rfl, by decide +kernel, by decide +kernel⟩
theorem fd_is_whole {P : Program} {w : World} {K : PySem.W.Frag} {mg : Str → Option Value} {base : Heap} {f : Addr} {fd : FuncData}
    (F : FunD K "is_whole" "is_whole" (defArgs s_is_whole) (defBody s_is_whole) (defScope s_is_whole) [] [] f fd) (g : mg "is_whole" = some (.ref f))
    (m_bool : mg "bool" = none)
    (m_int : mg "int" = none)
    (m_isinstance : mg "isinstance" = none) : FD P w K mg base 1 "is_whole" ["thing"] [0] phi_is_whole := by
  refine fd_D F g (fun _ _ _ _ _ _ us hl => match us, hl with | [_], _ => rfl) sc_is_whole rfl fun cdv A outer s H E hr => ?_
  have sc := sc_is_whole
  have hu := hr.units
  have tk : Takes (cxOf (L2.CX P w) P w K mg base ["thing"] "is_whole" (defScope s_is_whole) f cdv A outer s H E) (WF E) := takes_of rfl rfl rfl rfl
  have po : PassesOwn (model P w) (A.deeper (envOfC "is_whole" (defScope s_is_whole) s.heap.objs.size f cdv)) (envOfC "is_whole" (defScope s_is_whole) s.heap.objs.size f cdv) (cxOf (L2.CX P w) P w K mg base ["thing"] "is_whole" (defScope s_is_whole) f cdv A outer s H E).xe := passes_of rfl
  exact (dss_cons (ds_ret (de_and (d_isi m_isinstance (by rfl) (pe_bltn rfl m_int (by decide +kernel) rfl) okTy_int (de_var (pv 0))) (de_one (de_not (d_isi m_isinstance (by rfl) (pe_bltn rfl m_bool (by decide +kernel) rfl) okTy_bool (de_var (pv 0)))))))
  dss_nil)
noncomputable def b_divisor : SV := (sSeq (sWh (tT (e2 gNe (eVar 1) (eC (.int 0)))) (sSeq (sPar (true, 0) (true, 1) (eVar 1) (e2 gMod (eVar 0) (eVar 1)))
  sNext))
  (sSeq (sRet (eN gAbs (aCons (eVar 0) aNil)))
  sNext))
noncomputable def phi_divisor : FV := runF [0, 0] 2 b_divisor
theorem sc_divisor : FnScope ["one", "other"] ["one", "other"] (defScope s_divisor) := ⟨rfl, rfl, rfl, by decide +kernel, rfl, by decide +kernel, by decide +kernel⟩
theorem fd_divisor {P : Program} {w : World} {K : PySem.W.Frag} {mg : Str → Option Value} {base : Heap} {f : Addr} {fd : FuncData}
    (F : FunD K "divisor" "divisor" (defArgs s_divisor) (defBody s_divisor) (defScope s_divisor) [] [] f fd) (g : mg "divisor" = some (.ref f))
    (m_abs : mg "abs" = none) : FD P w K mg base 1 "divisor" ["one", "other"] [0, 0] phi_divisor := by
  refine fd_D F g (fun _ _ _ _ _ _ us hl => match us, hl with | [_, _], _ => rfl) sc_divisor rfl fun cdv A outer s H E hr => ?_
  have sc := sc_divisor
  have hu := hr.units
  have tk : Takes (cxOf (L2.CX P w) P w K mg base ["one", "other"] "divisor" (defScope s_divisor) f cdv A outer s H E) (WF E) := takes_of rfl rfl rfl rfl
  have po : PassesOwn (model P w) (A.deeper (envOfC "divisor" (defScope s_divisor) s.heap.objs.size f cdv)) (envOfC "divisor" (defScope s_divisor) s.heap.objs.size f cdv) (cxOf (L2.CX P w) P w K mg base ["one", "other"] "divisor" (defScope s_divisor) f cdv A outer s H E).xe := passes_of rfl
  exact (dss_cons (ds_while po (t_ne hu (de_var (pv 1)) d_int) (dss_cons (ds_par (fun _ _ ha hb => ps_par (i := 0) (j := 1) rfl sc.nd rfl rfl (by decide) rfl rfl (pa_cons ha (pa_cons hb pa_nil)) (by rfl)) (by decide) (by decide) (de_var (pv 1)) (d_mod (de_var (pv 0)) (de_var (pv 1))))
  dss_nil))
  (dss_cons (ds_ret (d_abs m_abs (by rfl) (da_cons (de_var (pv 0)) da_nil rfl)))
  dss_nil))
noncomputable def b_is_fraction : SV := (sSeq (sIf (tOrD (tNotD (tT (e1 (gIsi "tuple") (eVar 0)))) (tT (e2 gNe (eN gLen (aCons (eVar 0) aNil)) (eC (.int 2))))) (sSeq (sRet (eC (.bl false)))
  sNext) sNext)
  (sSeq (sIf (tOrD (tNotD (tT (eCall [0] [none] phi_is_whole (aCons (e2 gIx (eVar 0) (eC (.int 0))) aNil)))) (tOrD (tNotD (tT (eCall [0] [none] phi_is_whole (aCons (e2 gIx (eVar 0) (eC (.int 1))) aNil)))) (tT (e2 gLt (e2 gIx (eVar 0) (eC (.int 1))) (eC (.int 1)))))) (sSeq (sRet (eC (.bl false)))
  sNext) sNext)
  (sSeq (sRet (e2 gEq (eCall [0, 0] [none, none] phi_divisor (aCons (e2 gIx (eVar 0) (eC (.int 0))) (aCons (e2 gIx (eVar 0) (eC (.int 1))) aNil))) (eC (.int 1))))
  sNext)))
noncomputable def phi_is_fraction : FV := runF [0] 1 b_is_fraction
theorem sc_is_fraction : FnScope ["thing"] ["thing"] (defScope s_is_fraction) := ⟨rfl, rfl, rfl, by decide +kernel, rfl, by decide +kernel, by decide +kernel⟩
theorem fd_is_fraction {P : Program} {w : World} {K : PySem.W.Frag} {mg : Str → Option Value} {base : Heap} {f : Addr} {fd : FuncData}
    (F : FunD K "is_fraction" "is_fraction" (defArgs s_is_fraction) (defBody s_is_fraction) (defScope s_is_fraction) [] [] f fd) (g : mg "is_fraction" = some (.ref f))
    (c_divisor : FD P w K mg base 1 "divisor" ["one", "other"] [0, 0] phi_divisor)
    (c_is_whole : FD P w K mg base 1 "is_whole" ["thing"] [0] phi_is_whole)
    (m_isinstance : mg "isinstance" = none)
    (m_len : mg "len" = none)
    (m_tuple : mg "tuple" = none) : FD P w K mg base 2 "is_fraction" ["thing"] [0] phi_is_fraction := by
  refine fd_D F g (fun _ _ _ _ _ _ us hl => match us, hl with | [_], _ => rfl) sc_is_fraction rfl fun cdv A outer s H E hr => ?_
  have sc := sc_is_fraction
  have hu := hr.units
  have tk : Takes (cxOf (L2.CX P w) P w K mg base ["thing"] "is_fraction" (defScope s_is_fraction) f cdv A outer s H E) (WF E) := takes_of rfl rfl rfl rfl
  have po : PassesOwn (model P w) (A.deeper (envOfC "is_fraction" (defScope s_is_fraction) s.heap.objs.size f cdv)) (envOfC "is_fraction" (defScope s_is_fraction) s.heap.objs.size f cdv) (cxOf (L2.CX P w) P w K mg base ["thing"] "is_fraction" (defScope s_is_fraction) f cdv A outer s H E).xe := passes_of rfl
  exact (dss_cons (ds_if (dw_dt (dw_or (dt_not (dt_val (d_isi m_isinstance (by rfl) (pe_bltn rfl m_tuple (by decide +kernel) rfl) okTy_tuple (de_var (pv 0))) (fun _ => rfl))) (dw_or1 (t_ne hu (d_len m_len (by rfl) (da_cons (de_var (pv 0)) da_nil rfl)) d_int)))) (dss_cons (ds_ret d_bl)
  dss_nil) dss_nil)
  (dss_cons (ds_if (dw_dt (dw_or (dt_not (dt_val (d_call c_is_whole tk hr (by decide) (by rfl) (dc_val (d_ix (de_var (pv 0)) d_int (fun _ _ => rfl)) dc_nil rfl)) (fun _ => rfl))) (dw_or (dt_not (dt_val (d_call c_is_whole tk hr (by decide) (by rfl) (dc_val (d_ix (de_var (pv 0)) d_int (fun _ _ => rfl)) dc_nil rfl)) (fun _ => rfl))) (dw_or1 (t_lt (d_ix (de_var (pv 0)) d_int (fun _ _ => rfl)) d_int))))) (dss_cons (ds_ret d_bl)
  dss_nil) dss_nil)
  (dss_cons (ds_ret (d_eq hu (d_call c_divisor tk hr (by decide) (by rfl) (dc_val (d_ix (de_var (pv 0)) d_int (fun _ _ => rfl)) (dc_val (d_ix (de_var (pv 0)) d_int (fun _ _ => rfl)) dc_nil rfl) rfl)) d_int))
  dss_nil)))
noncomputable def b_is_parent : SV := (sSeq (sRet (eAnd (eCall [0] [none] phi_is_whole (aCons (eVar 0) aNil)) (eChain gLe gLt (eC (.int 0)) (eVar 0) (eVar 1))))
  sNext)
noncomputable def phi_is_parent : FV := runF [0, 0] 2 b_is_parent
theorem sc_is_parent : FnScope ["thing", "place"] ["thing", "place"] (defScope s_is_parent) := ⟨rfl, rfl, rfl, by decide +kernel, rfl, by decide +kernel, by decide +kernel⟩
theorem fd_is_parent {P : Program} {w : World} {K : PySem.W.Frag} {mg : Str → Option Value} {base : Heap} {f : Addr} {fd : FuncData}
    (F : FunD K "is_parent" "is_parent" (defArgs s_is_parent) (defBody s_is_parent) (defScope s_is_parent) [] [] f fd) (g : mg "is_parent" = some (.ref f))
    (c_is_whole : FD P w K mg base 1 "is_whole" ["thing"] [0] phi_is_whole) : FD P w K mg base 2 "is_parent" ["thing", "place"] [0, 0] phi_is_parent := by
  refine fd_D F g (fun _ _ _ _ _ _ us hl => match us, hl with | [_, _], _ => rfl) sc_is_parent rfl fun cdv A outer s H E hr => ?_
  have sc := sc_is_parent
  have hu := hr.units
  have tk : Takes (cxOf (L2.CX P w) P w K mg base ["thing", "place"] "is_parent" (defScope s_is_parent) f cdv A outer s H E) (WF E) := takes_of rfl rfl rfl rfl
  have po : PassesOwn (model P w) (A.deeper (envOfC "is_parent" (defScope s_is_parent) s.heap.objs.size f cdv)) (envOfC "is_parent" (defScope s_is_parent) s.heap.objs.size f cdv) (cxOf (L2.CX P w) P w K mg base ["thing", "place"] "is_parent" (defScope s_is_parent) f cdv A outer s H E).xe := passes_of rfl
  exact (dss_cons (ds_ret (de_and (d_call c_is_whole tk hr (by decide) (by rfl) (dc_val (de_var (pv 0)) dc_nil rfl)) (de_one (de_chain op_le op_lt (opf_cmp _) (opf_cmp _) d_int (de_var (pv 0)) (de_var (pv 1)) rfl))))
  dss_nil)
noncomputable def b_is_room : SV := (sSeq (sRet (eAnd (eCall [0] [none] phi_is_whole (aCons (eVar 0) aNil)) (eChain gLe gLe (eC (.int 1)) (eVar 0) (eC (.int 1000000)))))
  sNext)
noncomputable def phi_is_room : FV := runF [0] 1 b_is_room
theorem sc_is_room : FnScope ["thing"] ["thing"] (defScope s_is_room) := ⟨rfl, rfl, rfl, by decide +kernel, rfl, by decide +kernel, by decide +kernel⟩
theorem fd_is_room {P : Program} {w : World} {K : PySem.W.Frag} {mg : Str → Option Value} {base : Heap} {f : Addr} {fd : FuncData}
    (F : FunD K "is_room" "is_room" (defArgs s_is_room) (defBody s_is_room) (defScope s_is_room) [] [] f fd) (g : mg "is_room" = some (.ref f))
    (c_is_whole : FD P w K mg base 1 "is_whole" ["thing"] [0] phi_is_whole)
    (i_GREATEST_ROOM : ∃ t, mg "GREATEST_ROOM" = some (.int 1000000 t)) : FD P w K mg base 2 "is_room" ["thing"] [0] phi_is_room := by
  refine fd_D F g (fun _ _ _ _ _ _ us hl => match us, hl with | [_], _ => rfl) sc_is_room rfl fun cdv A outer s H E hr => ?_
  have sc := sc_is_room
  have hu := hr.units
  have tk : Takes (cxOf (L2.CX P w) P w K mg base ["thing"] "is_room" (defScope s_is_room) f cdv A outer s H E) (WF E) := takes_of rfl rfl rfl rfl
  have po : PassesOwn (model P w) (A.deeper (envOfC "is_room" (defScope s_is_room) s.heap.objs.size f cdv)) (envOfC "is_room" (defScope s_is_room) s.heap.objs.size f cdv) (cxOf (L2.CX P w) P w K mg base ["thing"] "is_room" (defScope s_is_room) f cdv A outer s H E).xe := passes_of rfl
  exact (dss_cons (ds_ret (de_and (d_call c_is_whole tk hr (by decide) (by rfl) (dc_val (de_var (pv 0)) dc_nil rfl)) (de_one (de_chain op_le op_le (opf_cmp _) (opf_cmp _) d_int (de_var (pv 0)) (d_gint i_GREATEST_ROOM rfl) rfl))))
  dss_nil)
noncomputable def b_are_two_lists : SV := (sSeq (sIf (tOrD (tNotD (tT (e1 (gIsi "tuple") (eVar 0)))) (tT (e2 gNe (eN gLen (aCons (eVar 0) aNil)) (eC (.int 2))))) (sSeq (sRet (eC (.bl false)))
  sNext) sNext)
  (sSeq (sIf (tOrD (tNotD (tT (e1 (gIsi "list") (e2 gIx (eVar 0) (eC (.int 0)))))) (tNotD (tT (e1 (gIsi "list") (e2 gIx (eVar 0) (eC (.int 1))))))) (sSeq (sRet (eC (.bl false)))
  sNext) sNext)
  (sSeq (sRet (eAnd (e2 gEq (eN gLen (aCons (e2 gIx (eVar 0) (eC (.int 0))) aNil)) (eN gLen (aCons (e2 gIx (eVar 0) (eC (.int 1))) aNil))) (eChain gLe gLe (eC (.int 1)) (eN gLen (aCons (e2 gIx (eVar 0) (eC (.int 0))) aNil)) (eC (.int 23)))))
  sNext)))
noncomputable def phi_are_two_lists : FV := runF [0] 1 b_are_two_lists
theorem sc_are_two_lists : FnScope ["thing"] ["thing"] (defScope s_are_two_lists) := ⟨rfl, rfl, rfl, by decide +kernel, rfl, by decide +kernel, by decide +kernel⟩
theorem fd_are_two_lists {P : Program} {w : World} {K : PySem.W.Frag} {mg : Str → Option Value} {base : Heap} {f : Addr} {fd : FuncData}
    (F : FunD K "are_two_lists" "are_two_lists" (defArgs s_are_two_lists) (defBody s_are_two_lists) (defScope s_are_two_lists) [] [] f fd) (g : mg "are_two_lists" = some (.ref f))
    (i_MOST_TIES : ∃ t, mg "MOST_TIES" = some (.int 23 t))
    (m_isinstance : mg "isinstance" = none)
    (m_len : mg "len" = none)
    (m_list : mg "list" = none)
    (m_tuple : mg "tuple" = none) : FD P w K mg base 1 "are_two_lists" ["thing"] [0] phi_are_two_lists := by
  refine fd_D F g (fun _ _ _ _ _ _ us hl => match us, hl with | [_], _ => rfl) sc_are_two_lists rfl fun cdv A outer s H E hr => ?_
  have sc := sc_are_two_lists
  have hu := hr.units
  have tk : Takes (cxOf (L2.CX P w) P w K mg base ["thing"] "are_two_lists" (defScope s_are_two_lists) f cdv A outer s H E) (WF E) := takes_of rfl rfl rfl rfl
  have po : PassesOwn (model P w) (A.deeper (envOfC "are_two_lists" (defScope s_are_two_lists) s.heap.objs.size f cdv)) (envOfC "are_two_lists" (defScope s_are_two_lists) s.heap.objs.size f cdv) (cxOf (L2.CX P w) P w K mg base ["thing"] "are_two_lists" (defScope s_are_two_lists) f cdv A outer s H E).xe := passes_of rfl
  exact (dss_cons (ds_if (dw_dt (dw_or (dt_not (dt_val (d_isi m_isinstance (by rfl) (pe_bltn rfl m_tuple (by decide +kernel) rfl) okTy_tuple (de_var (pv 0))) (fun _ => rfl))) (dw_or1 (t_ne hu (d_len m_len (by rfl) (da_cons (de_var (pv 0)) da_nil rfl)) d_int)))) (dss_cons (ds_ret d_bl)
  dss_nil) dss_nil)
  (dss_cons (ds_if (dw_dt (dw_or (dt_not (dt_val (d_isi m_isinstance (by rfl) (pe_bltn rfl m_list (by decide +kernel) rfl) okTy_list (d_ix (de_var (pv 0)) d_int (fun _ _ => rfl))) (fun _ => rfl))) (dw_or1 (dt_not (dt_val (d_isi m_isinstance (by rfl) (pe_bltn rfl m_list (by decide +kernel) rfl) okTy_list (d_ix (de_var (pv 0)) d_int (fun _ _ => rfl))) (fun _ => rfl)))))) (dss_cons (ds_ret d_bl)
  dss_nil) dss_nil)
  (dss_cons (ds_ret (de_and (d_eq hu (d_len m_len (by rfl) (da_cons (d_ix (de_var (pv 0)) d_int (fun _ _ => rfl)) da_nil rfl)) (d_len m_len (by rfl) (da_cons (d_ix (de_var (pv 0)) d_int (fun _ _ => rfl)) da_nil rfl))) (de_one (de_chain op_le op_le (opf_cmp _) (opf_cmp _) d_int (d_len m_len (by rfl) (da_cons (d_ix (de_var (pv 0)) d_int (fun _ _ => rfl)) da_nil rfl)) (d_gint i_MOST_TIES rfl) rfl))))
  dss_nil)))
noncomputable def b_look_at_tree : SV := (sSeq (sIf (tNotD (tT (eCall [0] [none] phi_are_two_lists (aCons (eVar 0) aNil)))) (sSeq (sRaiseN "NoTree" ["part", "number"] (aCons (eC (.str "tree")) (aCons (eC .non) aNil)))
  sNext) sNext)
  (sSeq (sFor (.tp [(true, 1), (true, 2)]) (iEnumD (aCons (e2 gIx (eVar 0) (eC (.int 0))) aNil)) (sSeq (sIf (tNotD (tT (eCall [0, 0] [none, none] phi_is_parent (aCons (eVar 2) (aCons (e2 gAdd (eVar 1) (eC (.int 1))) aNil))))) (sSeq (sRaiseN "NoTree" ["part", "number"] (aCons (eC (.str "parents")) (aCons (eVar 1) aNil)))
  sNext) sNext)
  sNext))
  (sSeq (sFor (.tp [(true, 1), (true, 3)]) (iEnumD (aCons (e2 gIx (eVar 0) (eC (.int 1))) aNil)) (sSeq (sIf (tNotD (tT (eCall [0] [none] phi_is_room (aCons (eVar 3) aNil)))) (sSeq (sRaiseN "NoTree" ["part", "number"] (aCons (eC (.str "rooms")) (aCons (eVar 1) aNil)))
  sNext) sNext)
  sNext))
  sNext)))
noncomputable def phi_look_at_tree : FV := runF [0] 4 b_look_at_tree
theorem sc_look_at_tree : FnScope ["thing", "number", "parent", "room"] ["thing"] (defScope s_look_at_tree) := ⟨rfl, rfl, rfl, by decide +kernel, rfl, by decide +kernel, by decide +kernel⟩
theorem fd_look_at_tree {P : Program} {w : World} {K : PySem.W.Frag} {mg : Str → Option Value} {base : Heap} {f : Addr} {fd : FuncData}
    (F : FunD K "look_at_tree" "look_at_tree" (defArgs s_look_at_tree) (defBody s_look_at_tree) (defScope s_look_at_tree) [] [] f fd) (g : mg "look_at_tree" = some (.ref f))
    (c_is_room : FD P w K mg base 2 "is_room" ["thing"] [0] phi_is_room)
    (c_is_parent : FD P w K mg base 2 "is_parent" ["thing", "place"] [0, 0] phi_is_parent)
    (c_are_two_lists : FD P w K mg base 1 "are_two_lists" ["thing"] [0] phi_are_two_lists)
    (m_enumerate : mg "enumerate" = none)
    (g_NoTree : mg "NoTree" = some (.ref (He.ga K "NoTree")))
    (x_NoTree : XI P w K mg base 1 "NoTree" ["part", "number"]) : FD P w K mg base 3 "look_at_tree" ["thing"] [0] phi_look_at_tree := by
  refine fd_D F g (fun _ _ _ _ _ _ us hl => match us, hl with | [_], _ => rfl) sc_look_at_tree rfl fun cdv A outer s H E hr => ?_
  have sc := sc_look_at_tree
  have hu := hr.units
  have tk : Takes (cxOf (L2.CX P w) P w K mg base ["thing", "number", "parent", "room"] "look_at_tree" (defScope s_look_at_tree) f cdv A outer s H E) (WF E) := takes_of rfl rfl rfl rfl
  have po : PassesOwn (model P w) (A.deeper (envOfC "look_at_tree" (defScope s_look_at_tree) s.heap.objs.size f cdv)) (envOfC "look_at_tree" (defScope s_look_at_tree) s.heap.objs.size f cdv) (cxOf (L2.CX P w) P w K mg base ["thing", "number", "parent", "room"] "look_at_tree" (defScope s_look_at_tree) f cdv A outer s H E).xe := passes_of rfl
  exact (dss_cons (ds_if (dt_not (dt_val (d_call c_are_two_lists tk hr (by decide) (by rfl) (dc_val (de_var (pv 0)) dc_nil rfl)) (fun _ => rfl))) (dss_cons (ds_raiseN rfl tk x_NoTree hr (by decide) (Nat.le_of_ble_eq_true rfl) (by rfl) (da_cons d_str (da_cons d_non da_nil rfl) rfl))
  dss_nil) dss_nil)
  (dss_cons (ds_for po rfl (d_enum m_enumerate (by rfl) (da_cons (d_ix (de_var (pv 0)) d_int (fun _ _ => rfl)) da_nil rfl)) (dg_tup rfl (dgs_cons (pg_name (i := 1) sc.nd rfl (by first | exact Or.inl rfl | exact Or.inr rfl)) (by decide) (dgs_cons (pg_name (i := 2) sc.nd rfl (by first | exact Or.inl rfl | exact Or.inr rfl)) (by decide) dgs_nil rfl) rfl) rfl rfl rfl) (dss_cons (ds_if (dt_not (dt_val (d_call c_is_parent tk hr (by decide) (by rfl) (dc_val (de_var (pv 2)) (dc_val (d_add (de_var (pv 1)) d_int) dc_nil rfl) rfl)) (fun _ => rfl))) (dss_cons (ds_raiseN rfl tk x_NoTree hr (by decide) (Nat.le_of_ble_eq_true rfl) (by rfl) (da_cons d_str (da_cons (de_var (pv 1)) da_nil rfl) rfl))
  dss_nil) dss_nil)
  dss_nil) (by intro _; rfl))
  (dss_cons (ds_for po rfl (d_enum m_enumerate (by rfl) (da_cons (d_ix (de_var (pv 0)) d_int (fun _ _ => rfl)) da_nil rfl)) (dg_tup rfl (dgs_cons (pg_name (i := 1) sc.nd rfl (by first | exact Or.inl rfl | exact Or.inr rfl)) (by decide) (dgs_cons (pg_name (i := 3) sc.nd rfl (by first | exact Or.inl rfl | exact Or.inr rfl)) (by decide) dgs_nil rfl) rfl) rfl rfl rfl) (dss_cons (ds_if (dt_not (dt_val (d_call c_is_room tk hr (by decide) (by rfl) (dc_val (de_var (pv 3)) dc_nil rfl)) (fun _ => rfl))) (dss_cons (ds_raiseN rfl tk x_NoTree hr (by decide) (Nat.le_of_ble_eq_true rfl) (by rfl) (da_cons d_str (da_cons (de_var (pv 1)) da_nil rfl) rfl))
  dss_nil) dss_nil)
  dss_nil) (by intro _; rfl))
  dss_nil)))
noncomputable def b_look_at_prices : SV := (sSeq (sExpr (eCall [0] [none] phi_look_at_tree (aCons (eVar 0) aNil)))
  (sSeq (sIf (tNotD (tT (e1 (gIsi "list") (eVar 1)))) (sSeq (sRaiseN "NoPrices" ["number"] (aCons (eC .non) aNil))
  sNext) sNext)
  (sSeq (sAsg (.nm (true, 2)) (eN gLen (aCons (e2 gIx (eVar 0) (eC (.int 0))) aNil)))
  (sSeq (sFor (.tp [(true, 3), (true, 4)]) (iEnumD (aCons (eVar 1) aNil)) (sSeq (sIf (tOrD (tT (e2 gEq (eVar 3) (eVar 2))) (tOrD (tNotD (tT (eCall [0] [none] phi_is_fraction (aCons (eVar 4) aNil)))) (tT (e2 gLt (e2 gIx (eVar 4) (eC (.int 0))) (eC (.int 0)))))) (sSeq (sRaiseN "NoPrices" ["number"] (aCons (eVar 3) aNil))
  sNext) sNext)
  sNext))
  (sSeq (sIf (tT (e2 gLt (eN gLen (aCons (eVar 1) aNil)) (eVar 2))) (sSeq (sRaiseN "NoPrices" ["number"] (aCons (eN gLen (aCons (eVar 1) aNil)) aNil))
  sNext) sNext)
  sNext)))))
noncomputable def phi_look_at_prices : FV := runF [0, 0] 5 b_look_at_prices
theorem sc_look_at_prices : FnScope ["tree", "thing", "many", "place", "price"] ["tree", "thing"] (defScope s_look_at_prices) := ⟨rfl, rfl, rfl, by decide +kernel, rfl, by decide +kernel, by decide +kernel⟩
theorem fd_look_at_prices {P : Program} {w : World} {K : PySem.W.Frag} {mg : Str → Option Value} {base : Heap} {f : Addr} {fd : FuncData}
    (F : FunD K "look_at_prices" "look_at_prices" (defArgs s_look_at_prices) (defBody s_look_at_prices) (defScope s_look_at_prices) [] [] f fd) (g : mg "look_at_prices" = some (.ref f))
    (c_is_fraction : FD P w K mg base 2 "is_fraction" ["thing"] [0] phi_is_fraction)
    (c_look_at_tree : FD P w K mg base 3 "look_at_tree" ["thing"] [0] phi_look_at_tree)
    (m_enumerate : mg "enumerate" = none)
    (m_isinstance : mg "isinstance" = none)
    (m_len : mg "len" = none)
    (m_list : mg "list" = none)
    (g_NoPrices : mg "NoPrices" = some (.ref (He.ga K "NoPrices")))
    (x_NoPrices : XI P w K mg base 1 "NoPrices" ["number"]) : FD P w K mg base 4 "look_at_prices" ["tree", "thing"] [0, 0] phi_look_at_prices := by
  refine fd_D F g (fun _ _ _ _ _ _ us hl => match us, hl with | [_, _], _ => rfl) sc_look_at_prices rfl fun cdv A outer s H E hr => ?_
  have sc := sc_look_at_prices
  have hu := hr.units
  have tk : Takes (cxOf (L2.CX P w) P w K mg base ["tree", "thing", "many", "place", "price"] "look_at_prices" (defScope s_look_at_prices) f cdv A outer s H E) (WF E) := takes_of rfl rfl rfl rfl
  have po : PassesOwn (model P w) (A.deeper (envOfC "look_at_prices" (defScope s_look_at_prices) s.heap.objs.size f cdv)) (envOfC "look_at_prices" (defScope s_look_at_prices) s.heap.objs.size f cdv) (cxOf (L2.CX P w) P w K mg base ["tree", "thing", "many", "place", "price"] "look_at_prices" (defScope s_look_at_prices) f cdv A outer s H E).xe := passes_of rfl
  exact (dss_cons (ds_expr (d_call c_look_at_tree tk hr (by decide) (by rfl) (dc_val (de_var (pv 0)) dc_nil rfl)) rfl)
  (dss_cons (ds_if (dt_not (dt_val (d_isi m_isinstance (by rfl) (pe_bltn rfl m_list (by decide +kernel) rfl) okTy_list (de_var (pv 1))) (fun _ => rfl))) (dss_cons (ds_raiseN rfl tk x_NoPrices hr (by decide) (Nat.le_of_ble_eq_true rfl) (by rfl) (da_cons d_non da_nil rfl))
  dss_nil) dss_nil)
  (dss_cons (ds_asg (d_len m_len (by rfl) (da_cons (d_ix (de_var (pv 0)) d_int (fun _ _ => rfl)) da_nil rfl)) (dg_name (pg_name (i := 2) sc.nd rfl (by first | exact Or.inl rfl | exact Or.inr rfl)) (by decide)) rfl rfl rfl)
  (dss_cons (ds_for po rfl (d_enum m_enumerate (by rfl) (da_cons (de_var (pv 1)) da_nil rfl)) (dg_tup rfl (dgs_cons (pg_name (i := 3) sc.nd rfl (by first | exact Or.inl rfl | exact Or.inr rfl)) (by decide) (dgs_cons (pg_name (i := 4) sc.nd rfl (by first | exact Or.inl rfl | exact Or.inr rfl)) (by decide) dgs_nil rfl) rfl) rfl rfl rfl) (dss_cons (ds_if (dw_dt (dw_or (t_eq hu (de_var (pv 3)) (de_var (pv 2))) (dw_or (dt_not (dt_val (d_call c_is_fraction tk hr (by decide) (by rfl) (dc_val (de_var (pv 4)) dc_nil rfl)) (fun _ => rfl))) (dw_or1 (t_lt (d_ix (de_var (pv 4)) d_int (fun _ _ => rfl)) d_int))))) (dss_cons (ds_raiseN rfl tk x_NoPrices hr (by decide) (Nat.le_of_ble_eq_true rfl) (by rfl) (da_cons (de_var (pv 3)) da_nil rfl))
  dss_nil) dss_nil)
  dss_nil) (by intro _; rfl))
  (dss_cons (ds_if (t_lt (d_len m_len (by rfl) (da_cons (de_var (pv 1)) da_nil rfl)) (de_var (pv 2))) (dss_cons (ds_raiseN rfl tk x_NoPrices hr (by decide) (Nat.le_of_ble_eq_true rfl) (by rfl) (da_cons (d_len m_len (by rfl) (da_cons (de_var (pv 1)) da_nil rfl)) da_nil rfl))
  dss_nil) dss_nil)
  dss_nil)))))
noncomputable def b__law_cell : SV := (sSeq (sIf (tT (e2 gLt (eVar 1) (eN gLen (aCons (eVar 0) aNil)))) (sSeq (sRet (e2 gIx (eVar 0) (eVar 1)))
  sNext) sNext)
  (sSeq (sRet (eC (.int 0)))
  sNext))
noncomputable def phi__law_cell : FV := runF [0, 0] 2 b__law_cell
theorem sc__law_cell : FnScope ["_law_script", "_law_k"] ["_law_script", "_law_k"] (defScope s__law_cell) := ⟨rfl, rfl, rfl, by decide +kernel, rfl, by decide +kernel, by decide +kernel⟩
theorem fd__law_cell {P : Program} {w : World} {K : PySem.W.Frag} {mg : Str → Option Value} {base : Heap} {f : Addr} {fd : FuncData}
    (F : FunD K "_law_cell" "_law_cell" (defArgs s__law_cell) (defBody s__law_cell) (defScope s__law_cell) [] [] f fd) (g : mg "_law_cell" = some (.ref f))
    (m_len : mg "len" = none) : FD P w K mg base 1 "_law_cell" ["_law_script", "_law_k"] [0, 0] phi__law_cell := by
  refine fd_D F g (fun _ _ _ _ _ _ us hl => match us, hl with | [_, _], _ => rfl) sc__law_cell rfl fun cdv A outer s H E hr => ?_
  have sc := sc__law_cell
  have hu := hr.units
  have tk : Takes (cxOf (L2.CX P w) P w K mg base ["_law_script", "_law_k"] "_law_cell" (defScope s__law_cell) f cdv A outer s H E) (WF E) := takes_of rfl rfl rfl rfl
  have po : PassesOwn (model P w) (A.deeper (envOfC "_law_cell" (defScope s__law_cell) s.heap.objs.size f cdv)) (envOfC "_law_cell" (defScope s__law_cell) s.heap.objs.size f cdv) (cxOf (L2.CX P w) P w K mg base ["_law_script", "_law_k"] "_law_cell" (defScope s__law_cell) f cdv A outer s H E).xe := passes_of rfl
  exact (dss_cons (ds_if (t_lt (de_var (pv 1)) (d_len m_len (by rfl) (da_cons (de_var (pv 0)) da_nil rfl))) (dss_cons (ds_ret (d_ix (de_var (pv 0)) (de_var (pv 1)) (fun _ _ => rfl)))
  dss_nil) dss_nil)
  (dss_cons (ds_ret d_int)
  dss_nil))
noncomputable def b__law_source : SV := (sSeq (sAsg (.nm (true, 2)) (eN gAbs (aCons (eVar 0) aNil)))
  (sSeq (sAsg (.nm (true, 3)) (e2 gMod (e2 gMul (e2 gAdd (e2 gAdd (e2 gMod (eVar 2) (eC (.int 1000003))) (e2 gMul (eC (.int 104729)) (eVar 1))) (eC (.int 7))) (eC (.int 48271))) (eC (.int 2147483647))))
  (sSeq (sIf (tT (e2 gLt (eVar 2) (e2 gPow (eC (.int 10)) (eC (.int 18))))) (sSeq (sAsg (.nm (true, 2)) (eC (.int 0)))
  sNext) sNext)
  (sSeq (sRet (eLst (aCons (eVar 2) (aCons (eVar 3) aNil))))
  sNext))))
noncomputable def phi__law_source : FV := runF [0, 0] 4 b__law_source
theorem sc__law_source : FnScope ["_law_cell_here", "_law_k", "_law_number", "_law_seed"] ["_law_cell_here", "_law_k"] (defScope s__law_source) := ⟨rfl, rfl, rfl, by decide +kernel, rfl, by decide +kernel, by decide +kernel⟩
theorem fd__law_source {P : Program} {w : World} {K : PySem.W.Frag} {mg : Str → Option Value} {base : Heap} {f : Addr} {fd : FuncData}
    (F : FunD K "_law_source" "_law_source" (defArgs s__law_source) (defBody s__law_source) (defScope s__law_source) [] [] f fd) (g : mg "_law_source" = some (.ref f))
    (m_abs : mg "abs" = none) : FD P w K mg base 1 "_law_source" ["_law_cell_here", "_law_k"] [0, 0] phi__law_source := by
  refine fd_D F g (fun _ _ _ _ _ _ us hl => match us, hl with | [_, _], _ => rfl) sc__law_source rfl fun cdv A outer s H E hr => ?_
  have sc := sc__law_source
  have hu := hr.units
  have tk : Takes (cxOf (L2.CX P w) P w K mg base ["_law_cell_here", "_law_k", "_law_number", "_law_seed"] "_law_source" (defScope s__law_source) f cdv A outer s H E) (WF E) := takes_of rfl rfl rfl rfl
  have po : PassesOwn (model P w) (A.deeper (envOfC "_law_source" (defScope s__law_source) s.heap.objs.size f cdv)) (envOfC "_law_source" (defScope s__law_source) s.heap.objs.size f cdv) (cxOf (L2.CX P w) P w K mg base ["_law_cell_here", "_law_k", "_law_number", "_law_seed"] "_law_source" (defScope s__law_source) f cdv A outer s H E).xe := passes_of rfl
  exact (dss_cons (ds_asg (d_abs m_abs (by rfl) (da_cons (de_var (pv 0)) da_nil rfl)) (dg_name (pg_name (i := 2) sc.nd rfl (by first | exact Or.inl rfl | exact Or.inr rfl)) (by decide)) rfl rfl rfl)
  (dss_cons (ds_asg (d_mod (d_mul (d_add (d_add (d_mod (de_var (pv 2)) d_int) (d_mul d_int (de_var (pv 1)))) d_int) d_int) d_int) (dg_name (pg_name (i := 3) sc.nd rfl (by first | exact Or.inl rfl | exact Or.inr rfl)) (by decide)) rfl rfl rfl)
  (dss_cons (ds_if (t_lt (de_var (pv 2)) (d_pow d_int d_int)) (dss_cons (ds_asg d_int (dg_name (pg_name (i := 2) sc.nd rfl (by first | exact Or.inl rfl | exact Or.inr rfl)) (by decide)) rfl rfl rfl)
  dss_nil) dss_nil)
  (dss_cons (ds_ret (de_lst (da_cons (de_var (pv 2)) (da_cons (de_var (pv 3)) da_nil rfl) rfl)))
  dss_nil))))
noncomputable def b__law_draw : SV := (sSeq (sIf (tT (e2 gGt (eIxO 0 [] (eC (.int 0))) (eC (.int 0)))) (sSeq (sAsg (.nm (true, 2)) (e2 gMod (eIxO 0 [] (eC (.int 0))) (eVar 1)))
  (sSeq (sStore 0 [] (eC (.int 0)) (e2 gDiv (eIxO 0 [] (eC (.int 0))) (eVar 1)))
  (sSeq (sRet (eVar 2))
  sNext))) sNext)
  (sSeq (sStore 0 [] (eC (.int 1)) (e2 gMod (e2 gAdd (e2 gMul (eIxO 0 [] (eC (.int 1))) (eC (.int 48271))) (eC (.int 11))) (eC (.int 2147483647))))
  (sSeq (sAsg (.nm (true, 3)) (e2 gDiv (e2 gMod (e2 gMul (eIxO 0 [] (eC (.int 1))) (eIxO 0 [] (eC (.int 1)))) (eC (.int 2147483629))) (eC (.int 64))))
  (sSeq (sIf (tT (e2 gGt (eVar 1) (e2 gPow (eC (.int 10)) (eC (.int 7))))) (sSeq (sStore 0 [] (eC (.int 1)) (e2 gMod (e2 gAdd (e2 gMul (eIxO 0 [] (eC (.int 1))) (eC (.int 39373))) (eC (.int 17))) (eC (.int 2147483647))))
  (sSeq (sAsg (.nm (true, 3)) (e2 gAdd (e2 gMul (eVar 3) (eC (.int 33554393))) (e2 gDiv (e2 gMod (e2 gMul (eIxO 0 [] (eC (.int 1))) (eIxO 0 [] (eC (.int 1)))) (eC (.int 2147483629))) (eC (.int 64)))))
  sNext)) sNext)
  (sSeq (sRet (e2 gMod (eVar 3) (eVar 1)))
  sNext)))))
noncomputable def phi__law_draw : FV := runF [1, 0] 4 b__law_draw
theorem sc__law_draw : FnScope ["_law_source_here", "_law_many", "_law_digit", "_law_found"] ["_law_source_here", "_law_many"] (defScope s__law_draw) := ⟨rfl, rfl, rfl, by decide +kernel, rfl, by decide +kernel, by decide +kernel⟩
theorem fd__law_draw {P : Program} {w : World} {K : PySem.W.Frag} {mg : Str → Option Value} {base : Heap} {f : Addr} {fd : FuncData}
    (F : FunD K "_law_draw" "_law_draw" (defArgs s__law_draw) (defBody s__law_draw) (defScope s__law_draw) [] [] f fd) (g : mg "_law_draw" = some (.ref f)) : FD P w K mg base 1 "_law_draw" ["_law_source_here", "_law_many"] [1, 0] phi__law_draw := by
  refine fd_D F g (fun _ _ _ _ _ _ us hl => match us, hl with | [_, _], _ => rfl) sc__law_draw rfl fun cdv A outer s H E hr => ?_
  have sc := sc__law_draw
  have hu := hr.units
  have tk : Takes (cxOf (L2.CX P w) P w K mg base ["_law_source_here", "_law_many", "_law_digit", "_law_found"] "_law_draw" (defScope s__law_draw) f cdv A outer s H E) (WF E) := takes_of rfl rfl rfl rfl
  have po : PassesOwn (model P w) (A.deeper (envOfC "_law_draw" (defScope s__law_draw) s.heap.objs.size f cdv)) (envOfC "_law_draw" (defScope s__law_draw) s.heap.objs.size f cdv) (cxOf (L2.CX P w) P w K mg base ["_law_source_here", "_law_many", "_law_digit", "_law_found"] "_law_draw" (defScope s__law_draw) f cdv A outer s H E).xe := passes_of rfl
  exact (dss_cons (ds_if (t_gt (de_ixo (dp_name (pv 0)) d_int (fun _ _ => rfl)) d_int) (dss_cons (ds_asg (d_mod (de_ixo (dp_name (pv 0)) d_int (fun _ _ => rfl)) (de_var (pv 1))) (dg_name (pg_name (i := 2) sc.nd rfl (by first | exact Or.inl rfl | exact Or.inr rfl)) (by decide)) rfl rfl rfl)
  (dss_cons (d_store (dp_name (pv 0)) d_int (d_div (de_ixo (dp_name (pv 0)) d_int (fun _ _ => rfl)) (de_var (pv 1))))
  (dss_cons (ds_ret (de_var (pv 2)))
  dss_nil))) dss_nil)
  (dss_cons (d_store (dp_name (pv 0)) d_int (d_mod (d_add (d_mul (de_ixo (dp_name (pv 0)) d_int (fun _ _ => rfl)) d_int) d_int) d_int))
  (dss_cons (ds_asg (d_div (d_mod (d_mul (de_ixo (dp_name (pv 0)) d_int (fun _ _ => rfl)) (de_ixo (dp_name (pv 0)) d_int (fun _ _ => rfl))) d_int) d_int) (dg_name (pg_name (i := 3) sc.nd rfl (by first | exact Or.inl rfl | exact Or.inr rfl)) (by decide)) rfl rfl rfl)
  (dss_cons (ds_if (t_gt (de_var (pv 1)) (d_pow d_int d_int)) (dss_cons (d_store (dp_name (pv 0)) d_int (d_mod (d_add (d_mul (de_ixo (dp_name (pv 0)) d_int (fun _ _ => rfl)) d_int) d_int) d_int))
  (dss_cons (ds_asg (d_add (d_mul (de_var (pv 3)) d_int) (d_div (d_mod (d_mul (de_ixo (dp_name (pv 0)) d_int (fun _ _ => rfl)) (de_ixo (dp_name (pv 0)) d_int (fun _ _ => rfl))) d_int) d_int)) (dg_name (pg_name (i := 3) sc.nd rfl (by first | exact Or.inl rfl | exact Or.inr rfl)) (by decide)) rfl rfl rfl)
  dss_nil)) dss_nil)
  (dss_cons (ds_ret (d_mod (de_var (pv 3)) (de_var (pv 1))))
  dss_nil)))))
noncomputable def b__law_tree : SV := (sSeq (sAsg (.nm (true, 2)) (e2 gAdd (eC (.int 1)) (eCall [1, 0] [some 0, none] phi__law_draw (aLend 0 (aCons (eVar 1) aNil)))))
  (sSeq (sAsg (.nm (true, 3)) (eCall [1, 0] [some 0, none] phi__law_draw (aLend 0 (aCons (eC (.int 4)) aNil))))
  (sSeq (sAsg (.nm (false, 4)) (eLst aNil))
  (sSeq (sFor (.nm (true, 5)) (iR1 (aCons (eVar 2) aNil)) (sSeq (sApp 4 [] (e2 gIx (eLst (aCons (eCall [1, 0] [some 0, none] phi__law_draw (aLend 0 (aCons (e2 gAdd (eVar 5) (eC (.int 1))) aNil))) (aCons (eVar 5) (aCons (eC (.int 0)) (aCons (e2 gDiv (eVar 5) (eC (.int 2))) aNil))))) (eVar 3)))
  sNext))
  (sSeq (sAsg (.nm (true, 6)) (e2 gIx (eLst (aCons (eC (.int 1)) (aCons (eC (.int 3)) (aCons (eC (.int 60)) (aCons (e2 gPow (eC (.int 10)) (eC (.int 6))) aNil))))) (eCall [1, 0] [some 0, none] phi__law_draw (aLend 0 (aCons (eC (.int 4)) aNil)))))
  (sSeq (sRet (eTup (aCons (eMove 4) (aCons (eCompN 7 (.nm (true, 5)) [5] (iR1 (aCons (eVar 2) aNil)) tYesD (e2 gAdd (eC (.int 1)) (eCall [1, 0] [some 0, none] phi__law_draw (aLend 0 (aCons (eVar 6) aNil))))) aNil))))
  sNext))))))
noncomputable def phi__law_tree : FV := runF [1, 0] 7 b__law_tree
theorem sc__law_tree : FnScope ["_law_source_here", "_law_most", "_law_many", "_law_style", "_law_parents", "_law_k", "_law_wide"] ["_law_source_here", "_law_most"] (defScope s__law_tree) := ⟨rfl, rfl, rfl, by decide +kernel, rfl, by decide +kernel, by decide +kernel⟩
theorem fd__law_tree {P : Program} {w : World} {K : PySem.W.Frag} {mg : Str → Option Value} {base : Heap} {f : Addr} {fd : FuncData}
    (F : FunD K "_law_tree" "_law_tree" (defArgs s__law_tree) (defBody s__law_tree) (defScope s__law_tree) [] [] f fd) (g : mg "_law_tree" = some (.ref f))
    (c__law_draw : FD P w K mg base 1 "_law_draw" ["_law_source_here", "_law_many"] [1, 0] phi__law_draw)
    (m_range : mg "range" = none) : FD P w K mg base 2 "_law_tree" ["_law_source_here", "_law_most"] [1, 0] phi__law_tree := by
  refine fd_D F g (fun _ _ _ _ _ _ us hl => match us, hl with | [_, _], _ => rfl) sc__law_tree rfl fun cdv A outer s H E hr => ?_
  have sc := sc__law_tree
  have hu := hr.units
  have tk : Takes (cxOf (L2.CX P w) P w K mg base ["_law_source_here", "_law_most", "_law_many", "_law_style", "_law_parents", "_law_k", "_law_wide"] "_law_tree" (defScope s__law_tree) f cdv A outer s H E) (WF E) := takes_of rfl rfl rfl rfl
  have po : PassesOwn (model P w) (A.deeper (envOfC "_law_tree" (defScope s__law_tree) s.heap.objs.size f cdv)) (envOfC "_law_tree" (defScope s__law_tree) s.heap.objs.size f cdv) (cxOf (L2.CX P w) P w K mg base ["_law_source_here", "_law_most", "_law_many", "_law_style", "_law_parents", "_law_k", "_law_wide"] "_law_tree" (defScope s__law_tree) f cdv A outer s H E).xe := passes_of rfl
  exact (dss_cons (ds_asg (d_add d_int (d_call c__law_draw tk hr (by decide) (by rfl) (dc_lend (pv 0) (dc_val (de_var (pv 1)) dc_nil rfl) rfl))) (dg_name (pg_name (i := 2) sc.nd rfl (by first | exact Or.inl rfl | exact Or.inr rfl)) (by decide)) rfl rfl rfl)
  (dss_cons (ds_asg (d_call c__law_draw tk hr (by decide) (by rfl) (dc_lend (pv 0) (dc_val d_int dc_nil rfl) rfl)) (dg_name (pg_name (i := 3) sc.nd rfl (by first | exact Or.inl rfl | exact Or.inr rfl)) (by decide)) rfl rfl rfl)
  (dss_cons (ds_asg (de_lst da_nil) (dg_name (pg_name (i := 4) sc.nd rfl (by first | exact Or.inl rfl | exact Or.inr rfl)) (by decide)) rfl rfl rfl)
  (dss_cons (ds_for po rfl (d_range1 m_range (by rfl) (da_cons (de_var (pv 2)) da_nil rfl)) (dg_name (pg_name (i := 5) sc.nd rfl (by first | exact Or.inl rfl | exact Or.inr rfl)) (by decide)) (dss_cons (d_append (dp_name (pv 4)) (d_ix (de_lst (da_cons (d_call c__law_draw tk hr (by decide) (by rfl) (dc_lend (pv 0) (dc_val (d_add (de_var (pv 5)) d_int) dc_nil rfl) rfl)) (da_cons (de_var (pv 5)) (da_cons d_int (da_cons (d_div (de_var (pv 5)) d_int) da_nil rfl) rfl) rfl) rfl)) (de_var (pv 3)) (fun _ _ => rfl)))
  dss_nil) (by intro _; rfl))
  (dss_cons (ds_asg (d_ix (de_lst (da_cons d_int (da_cons d_int (da_cons d_int (da_cons (d_pow d_int d_int) da_nil rfl) rfl) rfl) rfl)) (d_call c__law_draw tk hr (by decide) (by rfl) (dc_lend (pv 0) (dc_val d_int dc_nil rfl) rfl)) (fun _ _ => rfl)) (dg_name (pg_name (i := 6) sc.nd rfl (by first | exact Or.inl rfl | exact Or.inr rfl)) (by decide)) rfl rfl rfl)
  (dss_cons (ds_ret (de_tup (da_cons (de_move (pv 4)) (da_cons (de_comp rfl sc.nd (d_range1 m_range (by rfl) (da_cons (de_var (pv 2)) da_nil rfl)) (blkOk_by (own := [("_law_k", 5)]) (by rfl)) (fun _ _ _ _ _ => (dg_name (pg_name (i := 5) sc.nd rfl (by first | exact Or.inl rfl | exact Or.inr rfl)) (by decide))) (fun _ _ _ _ _ => pts_yes) (fun _ _ _ _ _ => (d_add d_int (d_call c__law_draw takes0 hr (by decide) (by rfl) (dc_lend (pv 0) (dc_val (de_var (pv 6)) dc_nil rfl) rfl))))) da_nil rfl) rfl)))
  dss_nil))))))
noncomputable def b__law_lowest : SV := (sSeq (sAsg (.nm (true, 2)) (eVar 1))
  (sSeq (sAsg (.nm (true, 3)) (eN gAbs (aCons (eVar 0) aNil)))
  (sSeq (sWh (tT (e2 gGt (eVar 3) (eC (.int 0)))) (sSeq (sPar (true, 2) (true, 3) (eVar 3) (e2 gMod (eVar 2) (eVar 3)))
  sNext))
  (sSeq (sRet (eTup (aCons (e2 gDiv (eVar 0) (eVar 2)) (aCons (e2 gDiv (eVar 1) (eVar 2)) aNil))))
  sNext))))
noncomputable def phi__law_lowest : FV := runF [0, 0] 4 b__law_lowest
theorem sc__law_lowest : FnScope ["_law_top", "_law_bottom", "_law_one", "_law_other"] ["_law_top", "_law_bottom"] (defScope s__law_lowest) := ⟨rfl, rfl, rfl, by decide +kernel, rfl, by decide +kernel, by decide +kernel⟩
theorem fd__law_lowest {P : Program} {w : World} {K : PySem.W.Frag} {mg : Str → Option Value} {base : Heap} {f : Addr} {fd : FuncData}
    (F : FunD K "_law_lowest" "_law_lowest" (defArgs s__law_lowest) (defBody s__law_lowest) (defScope s__law_lowest) [] [] f fd) (g : mg "_law_lowest" = some (.ref f))
    (m_abs : mg "abs" = none) : FD P w K mg base 1 "_law_lowest" ["_law_top", "_law_bottom"] [0, 0] phi__law_lowest := by
  refine fd_D F g (fun _ _ _ _ _ _ us hl => match us, hl with | [_, _], _ => rfl) sc__law_lowest rfl fun cdv A outer s H E hr => ?_
  have sc := sc__law_lowest
  have hu := hr.units
  have tk : Takes (cxOf (L2.CX P w) P w K mg base ["_law_top", "_law_bottom", "_law_one", "_law_other"] "_law_lowest" (defScope s__law_lowest) f cdv A outer s H E) (WF E) := takes_of rfl rfl rfl rfl
  have po : PassesOwn (model P w) (A.deeper (envOfC "_law_lowest" (defScope s__law_lowest) s.heap.objs.size f cdv)) (envOfC "_law_lowest" (defScope s__law_lowest) s.heap.objs.size f cdv) (cxOf (L2.CX P w) P w K mg base ["_law_top", "_law_bottom", "_law_one", "_law_other"] "_law_lowest" (defScope s__law_lowest) f cdv A outer s H E).xe := passes_of rfl
  exact (dss_cons (ds_asg (de_var (pv 1)) (dg_name (pg_name (i := 2) sc.nd rfl (by first | exact Or.inl rfl | exact Or.inr rfl)) (by decide)) rfl rfl rfl)
  (dss_cons (ds_asg (d_abs m_abs (by rfl) (da_cons (de_var (pv 0)) da_nil rfl)) (dg_name (pg_name (i := 3) sc.nd rfl (by first | exact Or.inl rfl | exact Or.inr rfl)) (by decide)) rfl rfl rfl)
  (dss_cons (ds_while po (t_gt (de_var (pv 3)) d_int) (dss_cons (ds_par (fun _ _ ha hb => ps_par (i := 2) (j := 3) rfl sc.nd rfl rfl (by decide) rfl rfl (pa_cons ha (pa_cons hb pa_nil)) (by rfl)) (by decide) (by decide) (de_var (pv 3)) (d_mod (de_var (pv 2)) (de_var (pv 3))))
  dss_nil))
  (dss_cons (ds_ret (de_tup (da_cons (d_div (de_var (pv 0)) (de_var (pv 2))) (da_cons (d_div (de_var (pv 1)) (de_var (pv 2))) da_nil rfl) rfl)))
  dss_nil))))
noncomputable def b__law_price : SV := (sSeq (sAsg (.nm (true, 1)) (e2 gIx (eLst (aCons (eC (.int 1)) (aCons (eC (.int 12)) (aCons (e2 gPow (eC (.int 10)) (eC (.int 9))) (aCons (e2 gPow (eC (.int 10)) (eC (.int 30))) aNil))))) (eCall [1, 0] [some 0, none] phi__law_draw (aLend 0 (aCons (eC (.int 4)) aNil)))))
  (sSeq (sRet (eCall [0, 0] [none, none] phi__law_lowest (aCons (eCall [1, 0] [some 0, none] phi__law_draw (aLend 0 (aCons (e2 gMul (eC (.int 9)) (eVar 1)) aNil))) (aCons (e2 gAdd (eC (.int 1)) (eCall [1, 0] [some 0, none] phi__law_draw (aLend 0 (aCons (eVar 1) aNil)))) aNil))))
  sNext))
noncomputable def phi__law_price : FV := runF [1] 2 b__law_price
theorem sc__law_price : FnScope ["_law_source_here", "_law_wide"] ["_law_source_here"] (defScope s__law_price) := ⟨rfl, rfl, rfl, by decide +kernel, rfl, by decide +kernel, by decide +kernel⟩
theorem fd__law_price {P : Program} {w : World} {K : PySem.W.Frag} {mg : Str → Option Value} {base : Heap} {f : Addr} {fd : FuncData}
    (F : FunD K "_law_price" "_law_price" (defArgs s__law_price) (defBody s__law_price) (defScope s__law_price) [] [] f fd) (g : mg "_law_price" = some (.ref f))
    (c__law_lowest : FD P w K mg base 1 "_law_lowest" ["_law_top", "_law_bottom"] [0, 0] phi__law_lowest)
    (c__law_draw : FD P w K mg base 1 "_law_draw" ["_law_source_here", "_law_many"] [1, 0] phi__law_draw) : FD P w K mg base 2 "_law_price" ["_law_source_here"] [1] phi__law_price := by
  refine fd_D F g (fun _ _ _ _ _ _ us hl => match us, hl with | [_], _ => rfl) sc__law_price rfl fun cdv A outer s H E hr => ?_
  have sc := sc__law_price
  have hu := hr.units
  have tk : Takes (cxOf (L2.CX P w) P w K mg base ["_law_source_here", "_law_wide"] "_law_price" (defScope s__law_price) f cdv A outer s H E) (WF E) := takes_of rfl rfl rfl rfl
  have po : PassesOwn (model P w) (A.deeper (envOfC "_law_price" (defScope s__law_price) s.heap.objs.size f cdv)) (envOfC "_law_price" (defScope s__law_price) s.heap.objs.size f cdv) (cxOf (L2.CX P w) P w K mg base ["_law_source_here", "_law_wide"] "_law_price" (defScope s__law_price) f cdv A outer s H E).xe := passes_of rfl
  exact (dss_cons (ds_asg (d_ix (de_lst (da_cons d_int (da_cons d_int (da_cons (d_pow d_int d_int) (da_cons (d_pow d_int d_int) da_nil rfl) rfl) rfl) rfl)) (d_call c__law_draw tk hr (by decide) (by rfl) (dc_lend (pv 0) (dc_val d_int dc_nil rfl) rfl)) (fun _ _ => rfl)) (dg_name (pg_name (i := 1) sc.nd rfl (by first | exact Or.inl rfl | exact Or.inr rfl)) (by decide)) rfl rfl rfl)
  (dss_cons (ds_ret (d_call c__law_lowest tk hr (by decide) (by rfl) (dc_val (d_call c__law_draw tk hr (by decide) (by rfl) (dc_lend (pv 0) (dc_val (d_mul d_int (de_var (pv 1))) dc_nil rfl) rfl)) (dc_val (d_add d_int (d_call c__law_draw tk hr (by decide) (by rfl) (dc_lend (pv 0) (dc_val (de_var (pv 1)) dc_nil rfl) rfl))) dc_nil rfl) rfl)))
  dss_nil))
noncomputable def b__law_odd : SV := (sSeq (sAsg (.tp [(true, 1), (true, 2)]) (eCall [1] [some 0] phi__law_price (aLend 0 aNil)))
  (sSeq (sAsg (.nm (true, 3)) (eLst (aCons (eC .non) (aCons (eC (.bl true)) (aCons (eC (.int 0)) (aCons (eC (.int 1)) (aCons (eC (.str "0")) (aCons (eC (.str "1/2")) (aCons (eC (.str "")) (aCons (eLst (aCons (eC (.int 1)) (aCons (eC (.int 2)) aNil))) (aCons (eLst aNil) (aCons eDict0 (aCons (eTup aNil) (aCons (eTup (aCons (eC (.int 1)) aNil)) (aCons (eTup (aCons (eC (.int 1)) (aCons (eC (.int 2)) (aCons (eC (.int 3)) aNil)))) (aCons (eTup (aCons (eC (.int 1)) (aCons (eC (.int 0)) aNil))) (aCons (eTup (aCons (eC (.int 0)) (aCons (eC (.int 2)) aNil))) aNil)))))))))))))))))
  (sSeq (sAsg (.nm (true, 3)) (e2 gAdd (eVar 3) (eLst (aCons (eTup (aCons (eC (.int 2)) (aCons (eC (.int 4)) aNil))) (aCons (eTup (aCons (e1 gNeg (eC (.int 1))) (aCons (eC (.int 2)) aNil))) aNil)))))
  (sSeq (sAsg (.nm (true, 3)) (e2 gAdd (eVar 3) (eLst (aCons (eTup (aCons (eC (.int 1)) (aCons (e1 gNeg (eC (.int 2))) aNil))) (aCons (eTup (aCons (eC (.bl true)) (aCons (eC (.int 1)) aNil))) (aCons (eTup (aCons (eC (.int 1)) (aCons (eC (.bl true)) aNil))) (aCons (eTup (aCons (eTup (aCons (eC (.int 1)) (aCons (eC (.int 2)) aNil))) (aCons (eC (.int 1)) aNil))) (aCons (eTup (aCons (eC .non) (aCons (eC (.int 1)) aNil))) (aCons (eTup (aCons (eC (.str "1")) (aCons (eC (.int 1)) aNil))) (aCons (eTup (aCons (eC (.int 0)) (aCons (eC (.int 0)) aNil))) aNil))))))))))
  (sSeq (sAsg (.nm (true, 3)) (e2 gAdd (eVar 3) (eLst (aCons (eTup (aCons (e2 DL.gSub (e1 gNeg (eC (.int 1))) (eVar 1)) (aCons (eC (.int 1)) aNil))) (aCons (eTup (aCons (e2 gMul (eC (.int 2)) (eVar 1)) (aCons (e2 gMul (eC (.int 2)) (eVar 2)) aNil))) (aCons (eTup (aCons (eVar 1) (aCons (e2 DL.gSub (eC (.int 0)) (eVar 2)) aNil))) (aCons (eLst (aCons (eVar 1) (aCons (eVar 2) aNil))) aNil)))))))
  (sSeq (sRet (e2 gIx (eVar 3) (eCall [1, 0] [some 0, none] phi__law_draw (aLend 0 (aCons (eC (.int 28)) aNil)))))
  sNext))))))
noncomputable def phi__law_odd : FV := runF [1] 4 b__law_odd
theorem sc__law_odd : FnScope ["_law_source_here", "_law_top", "_law_bottom", "_law_some"] ["_law_source_here"] (defScope s__law_odd) := ⟨rfl, rfl, rfl, by decide +kernel, rfl, by decide +kernel, by decide +kernel⟩
theorem fd__law_odd {P : Program} {w : World} {K : PySem.W.Frag} {mg : Str → Option Value} {base : Heap} {f : Addr} {fd : FuncData}
    (F : FunD K "_law_odd" "_law_odd" (defArgs s__law_odd) (defBody s__law_odd) (defScope s__law_odd) [] [] f fd) (g : mg "_law_odd" = some (.ref f))
    (c__law_draw : FD P w K mg base 1 "_law_draw" ["_law_source_here", "_law_many"] [1, 0] phi__law_draw)
    (c__law_price : FD P w K mg base 2 "_law_price" ["_law_source_here"] [1] phi__law_price) : FD P w K mg base 3 "_law_odd" ["_law_source_here"] [1] phi__law_odd := by
  refine fd_D F g (fun _ _ _ _ _ _ us hl => match us, hl with | [_], _ => rfl) sc__law_odd rfl fun cdv A outer s H E hr => ?_
  have sc := sc__law_odd
  have hu := hr.units
  have tk : Takes (cxOf (L2.CX P w) P w K mg base ["_law_source_here", "_law_top", "_law_bottom", "_law_some"] "_law_odd" (defScope s__law_odd) f cdv A outer s H E) (WF E) := takes_of rfl rfl rfl rfl
  have po : PassesOwn (model P w) (A.deeper (envOfC "_law_odd" (defScope s__law_odd) s.heap.objs.size f cdv)) (envOfC "_law_odd" (defScope s__law_odd) s.heap.objs.size f cdv) (cxOf (L2.CX P w) P w K mg base ["_law_source_here", "_law_top", "_law_bottom", "_law_some"] "_law_odd" (defScope s__law_odd) f cdv A outer s H E).xe := passes_of rfl
  exact (dss_cons (ds_asg (d_call c__law_price tk hr (by decide) (by rfl) (dc_lend (pv 0) dc_nil rfl)) (dg_tup rfl (dgs_cons (pg_name (i := 1) sc.nd rfl (by first | exact Or.inl rfl | exact Or.inr rfl)) (by decide) (dgs_cons (pg_name (i := 2) sc.nd rfl (by first | exact Or.inl rfl | exact Or.inr rfl)) (by decide) dgs_nil rfl) rfl) rfl rfl rfl) rfl rfl rfl)
  (dss_cons (ds_asg (de_lst (da_cons d_non (da_cons d_bl (da_cons d_int (da_cons d_int (da_cons d_str (da_cons d_str (da_cons d_str (da_cons (de_lst (da_cons d_int (da_cons d_int da_nil rfl) rfl)) (da_cons (de_lst da_nil) (da_cons d_dict0 (da_cons (de_tup da_nil) (da_cons (de_tup (da_cons d_int da_nil rfl)) (da_cons (de_tup (da_cons d_int (da_cons d_int (da_cons d_int da_nil rfl) rfl) rfl)) (da_cons (de_tup (da_cons d_int (da_cons d_int da_nil rfl) rfl)) (da_cons (de_tup (da_cons d_int (da_cons d_int da_nil rfl) rfl)) da_nil rfl) rfl) rfl) rfl) rfl) rfl) rfl) rfl) rfl) rfl) rfl) rfl) rfl) rfl) rfl)) (dg_name (pg_name (i := 3) sc.nd rfl (by first | exact Or.inl rfl | exact Or.inr rfl)) (by decide)) rfl rfl rfl)
  (dss_cons (ds_asg (d_add (de_var (pv 3)) (de_lst (da_cons (de_tup (da_cons d_int (da_cons d_int da_nil rfl) rfl)) (da_cons (de_tup (da_cons (d_neg d_int) (da_cons d_int da_nil rfl) rfl)) da_nil rfl) rfl))) (dg_name (pg_name (i := 3) sc.nd rfl (by first | exact Or.inl rfl | exact Or.inr rfl)) (by decide)) rfl rfl rfl)
  (dss_cons (ds_asg (d_add (de_var (pv 3)) (de_lst (da_cons (de_tup (da_cons d_int (da_cons (d_neg d_int) da_nil rfl) rfl)) (da_cons (de_tup (da_cons d_bl (da_cons d_int da_nil rfl) rfl)) (da_cons (de_tup (da_cons d_int (da_cons d_bl da_nil rfl) rfl)) (da_cons (de_tup (da_cons (de_tup (da_cons d_int (da_cons d_int da_nil rfl) rfl)) (da_cons d_int da_nil rfl) rfl)) (da_cons (de_tup (da_cons d_non (da_cons d_int da_nil rfl) rfl)) (da_cons (de_tup (da_cons d_str (da_cons d_int da_nil rfl) rfl)) (da_cons (de_tup (da_cons d_int (da_cons d_int da_nil rfl) rfl)) da_nil rfl) rfl) rfl) rfl) rfl) rfl) rfl))) (dg_name (pg_name (i := 3) sc.nd rfl (by first | exact Or.inl rfl | exact Or.inr rfl)) (by decide)) rfl rfl rfl)
  (dss_cons (ds_asg (d_add (de_var (pv 3)) (de_lst (da_cons (de_tup (da_cons (d_sub (d_neg d_int) (de_var (pv 1))) (da_cons d_int da_nil rfl) rfl)) (da_cons (de_tup (da_cons (d_mul d_int (de_var (pv 1))) (da_cons (d_mul d_int (de_var (pv 2))) da_nil rfl) rfl)) (da_cons (de_tup (da_cons (de_var (pv 1)) (da_cons (d_sub d_int (de_var (pv 2))) da_nil rfl) rfl)) (da_cons (de_lst (da_cons (de_var (pv 1)) (da_cons (de_var (pv 2)) da_nil rfl) rfl)) da_nil rfl) rfl) rfl) rfl))) (dg_name (pg_name (i := 3) sc.nd rfl (by first | exact Or.inl rfl | exact Or.inr rfl)) (by decide)) rfl rfl rfl)
  (dss_cons (ds_ret (d_ix (de_var (pv 3)) (d_call c__law_draw tk hr (by decide) (by rfl) (dc_lend (pv 0) (dc_val d_int dc_nil rfl) rfl)) (fun _ _ => rfl)))
  dss_nil))))))
noncomputable def b__law_thing : SV := (sSeq (sAsg (.nm (true, 2)) (eCompN 7 (.nm (true, 3)) [3] (iR1 (aCons (eVar 0) aNil)) tYesD (eCall [1] [some 1] phi__law_price (aLend 1 aNil))))
  (sSeq (sFor (.nm (true, 4)) (iR1 (aCons (eCall [1, 0] [some 1, none] phi__law_draw (aLend 1 (aCons (eC (.int 3)) aNil))) aNil)) (sSeq (sAsg (.nm (true, 5)) (eCall [1, 0] [some 1, none] phi__law_draw (aLend 1 (aCons (eC (.int 8)) aNil))))
  (sSeq (sAsg (.nm (true, 6)) (eCall [1, 0] [some 1, none] phi__law_draw (aLend 1 (aCons (e2 gAdd (eN gLen (aCons (eVar 2) aNil)) (eC (.int 1))) aNil))))
  (sSeq (sIf (tT (e2 gEq (eVar 5) (eC (.int 0)))) (sSeq (sRet (e2 gIx (eLst (aCons (eC .non) (aCons (eC (.int 5)) (aCons (eC (.str "")) (aCons (eTup (aCons (eC (.int 0)) (aCons (eC (.int 1)) aNil))) (aCons eDict0 (aCons (eC (.bl true)) (aCons (eN gTuple (aCons (eVar 2) aNil)) (aCons (eC (.bl false)) aNil))))))))) (eCall [1, 0] [some 1, none] phi__law_draw (aLend 1 (aCons (eC (.int 8)) aNil)))))
  sNext) sNext)
  (sSeq (sIf (tT (e2 gLt (eVar 5) (eC (.int 4)))) (sSeq (sAsg (.nm (true, 2)) (e2 gAdd (e2 gAdd (eSl (eVar 2) oNone (oSome (eVar 6))) (eLst (aCons (eCall [1] [some 1] phi__law_odd (aLend 1 aNil)) aNil))) (eSl (eVar 2) (oSome (e2 gAdd (eVar 6) (eC (.int 1)))) oNone)))
  sNext) (sSeq (sIf (tT (e2 gLt (eVar 5) (eC (.int 6)))) (sSeq (sAsg (.nm (true, 2)) (eSl (eVar 2) oNone (oSome (eVar 6))))
  sNext) (sSeq (sFor (.nm (true, 3)) (iR1 (aCons (e2 gAdd (eC (.int 1)) (eCall [1, 0] [some 1, none] phi__law_draw (aLend 1 (aCons (eC (.int 3)) aNil)))) aNil)) (sSeq (sAsg (.nm (true, 2)) (e2 gAdd (eVar 2) (eLst (aCons (e2 gIx (eLst (aCons (eCall [1] [some 1] phi__law_price (aLend 1 aNil)) (aCons (eCall [1] [some 1] phi__law_odd (aLend 1 aNil)) aNil))) (eCall [1, 0] [some 1, none] phi__law_draw (aLend 1 (aCons (eC (.int 2)) aNil)))) aNil))))
  sNext))
  sNext))
  sNext))
  sNext)))))
  (sSeq (sRet (eVar 2))
  sNext)))
noncomputable def phi__law_thing : FV := runF [0, 1] 7 b__law_thing
theorem sc__law_thing : FnScope ["_law_many", "_law_source_here", "_law_thing_here", "_law_k", "_law_turn", "_law_way", "_law_at"] ["_law_many", "_law_source_here"] (defScope s__law_thing) := ⟨rfl, rfl, rfl, by decide +kernel, rfl, by decide +kernel, by decide +kernel⟩
theorem fd__law_thing {P : Program} {w : World} {K : PySem.W.Frag} {mg : Str → Option Value} {base : Heap} {f : Addr} {fd : FuncData}
    (F : FunD K "_law_thing" "_law_thing" (defArgs s__law_thing) (defBody s__law_thing) (defScope s__law_thing) [] [] f fd) (g : mg "_law_thing" = some (.ref f))
    (c__law_draw : FD P w K mg base 1 "_law_draw" ["_law_source_here", "_law_many"] [1, 0] phi__law_draw)
    (c__law_odd : FD P w K mg base 3 "_law_odd" ["_law_source_here"] [1] phi__law_odd)
    (c__law_price : FD P w K mg base 2 "_law_price" ["_law_source_here"] [1] phi__law_price)
    (m_len : mg "len" = none)
    (m_range : mg "range" = none)
    (m_tuple : mg "tuple" = none) : FD P w K mg base 4 "_law_thing" ["_law_many", "_law_source_here"] [0, 1] phi__law_thing := by
  refine fd_D F g (fun _ _ _ _ _ _ us hl => match us, hl with | [_, _], _ => rfl) sc__law_thing rfl fun cdv A outer s H E hr => ?_
  have sc := sc__law_thing
  have hu := hr.units
  have tk : Takes (cxOf (L2.CX P w) P w K mg base ["_law_many", "_law_source_here", "_law_thing_here", "_law_k", "_law_turn", "_law_way", "_law_at"] "_law_thing" (defScope s__law_thing) f cdv A outer s H E) (WF E) := takes_of rfl rfl rfl rfl
  have po : PassesOwn (model P w) (A.deeper (envOfC "_law_thing" (defScope s__law_thing) s.heap.objs.size f cdv)) (envOfC "_law_thing" (defScope s__law_thing) s.heap.objs.size f cdv) (cxOf (L2.CX P w) P w K mg base ["_law_many", "_law_source_here", "_law_thing_here", "_law_k", "_law_turn", "_law_way", "_law_at"] "_law_thing" (defScope s__law_thing) f cdv A outer s H E).xe := passes_of rfl
  exact (dss_cons (ds_comp rfl sc.nd rfl rfl (sw_true rfl rfl rfl (by decide +kernel)) (by decide) (pg_name (i := 2) sc.nd rfl (by first | exact Or.inl rfl | exact Or.inr rfl)) (d_range1 m_range (by rfl) (da_cons (de_var (pv 0)) da_nil rfl)) (blkOk_by (own := [("_law_k", 3)]) (by rfl)) (fun _ _ _ _ _ => (dg_name (pg_name (i := 3) sc.nd rfl (by first | exact Or.inl rfl | exact Or.inr rfl)) (by decide))) (fun _ _ _ _ _ => pts_yes) (fun _ _ _ _ _ => (d_call c__law_price takes0 hr (by decide) (by rfl) (dc_lend (pv 1) dc_nil rfl))))
  (dss_cons (ds_for po rfl (d_range1 m_range (by rfl) (da_cons (d_call c__law_draw tk hr (by decide) (by rfl) (dc_lend (pv 1) (dc_val d_int dc_nil rfl) rfl)) da_nil rfl)) (dg_name (pg_name (i := 4) sc.nd rfl (by first | exact Or.inl rfl | exact Or.inr rfl)) (by decide)) (dss_cons (ds_asg (d_call c__law_draw tk hr (by decide) (by rfl) (dc_lend (pv 1) (dc_val d_int dc_nil rfl) rfl)) (dg_name (pg_name (i := 5) sc.nd rfl (by first | exact Or.inl rfl | exact Or.inr rfl)) (by decide)) rfl rfl rfl)
  (dss_cons (ds_asg (d_call c__law_draw tk hr (by decide) (by rfl) (dc_lend (pv 1) (dc_val (d_add (d_len m_len (by rfl) (da_cons (de_var (pv 2)) da_nil rfl)) d_int) dc_nil rfl) rfl)) (dg_name (pg_name (i := 6) sc.nd rfl (by first | exact Or.inl rfl | exact Or.inr rfl)) (by decide)) rfl rfl rfl)
  (dss_cons (ds_if (t_eq hu (de_var (pv 5)) d_int) (dss_cons (ds_ret (d_ix (de_lst (da_cons d_non (da_cons d_int (da_cons d_str (da_cons (de_tup (da_cons d_int (da_cons d_int da_nil rfl) rfl)) (da_cons d_dict0 (da_cons d_bl (da_cons (d_tuple m_tuple (by rfl) (da_cons (de_var (pv 2)) da_nil rfl)) (da_cons d_bl da_nil rfl) rfl) rfl) rfl) rfl) rfl) rfl) rfl)) (d_call c__law_draw tk hr (by decide) (by rfl) (dc_lend (pv 1) (dc_val d_int dc_nil rfl) rfl)) (fun _ _ => rfl)))
  dss_nil) dss_nil)
  (dss_cons (ds_if (t_lt (de_var (pv 5)) d_int) (dss_cons (ds_asg (d_add (d_add (de_sl (de_var (pv 2)) do_none (do_some (de_var (pv 6)))) (de_lst (da_cons (d_call c__law_odd tk hr (by decide) (by rfl) (dc_lend (pv 1) dc_nil rfl)) da_nil rfl))) (de_sl (de_var (pv 2)) (do_some (d_add (de_var (pv 6)) d_int)) do_none)) (dg_name (pg_name (i := 2) sc.nd rfl (by first | exact Or.inl rfl | exact Or.inr rfl)) (by decide)) rfl rfl rfl)
  dss_nil) (dss_cons (ds_if (t_lt (de_var (pv 5)) d_int) (dss_cons (ds_asg (de_sl (de_var (pv 2)) do_none (do_some (de_var (pv 6)))) (dg_name (pg_name (i := 2) sc.nd rfl (by first | exact Or.inl rfl | exact Or.inr rfl)) (by decide)) rfl rfl rfl)
  dss_nil) (dss_cons (ds_for po rfl (d_range1 m_range (by rfl) (da_cons (d_add d_int (d_call c__law_draw tk hr (by decide) (by rfl) (dc_lend (pv 1) (dc_val d_int dc_nil rfl) rfl))) da_nil rfl)) (dg_name (pg_name (i := 3) sc.nd rfl (by first | exact Or.inl rfl | exact Or.inr rfl)) (by decide)) (dss_cons (ds_asg (d_add (de_var (pv 2)) (de_lst (da_cons (d_ix (de_lst (da_cons (d_call c__law_price tk hr (by decide) (by rfl) (dc_lend (pv 1) dc_nil rfl)) (da_cons (d_call c__law_odd tk hr (by decide) (by rfl) (dc_lend (pv 1) dc_nil rfl)) da_nil rfl) rfl)) (d_call c__law_draw tk hr (by decide) (by rfl) (dc_lend (pv 1) (dc_val d_int dc_nil rfl) rfl)) (fun _ _ => rfl)) da_nil rfl))) (dg_name (pg_name (i := 2) sc.nd rfl (by first | exact Or.inl rfl | exact Or.inr rfl)) (by decide)) rfl rfl rfl)
  dss_nil) (by intro _; rfl))
  dss_nil))
  dss_nil))
  dss_nil)))) (by intro _; rfl))
  (dss_cons (ds_ret (de_var (pv 2)))
  dss_nil)))
noncomputable def b__law_whole : SV := (sSeq (sRet (eAnd (e1 (gIsi "int") (eVar 0)) (eNot (e1 (gIsi "bool") (eVar 0)))))
  sNext)
noncomputable def phi__law_whole : FV := runF [0] 1 b__law_whole
theorem sc__law_whole : FnScope ["_law_thing_here"] ["_law_thing_here"] (defScope s__law_whole) := ⟨rfl, rfl, rfl, by decide +kernel, rfl, by decide +kernel, by decide +kernel⟩
theorem fd__law_whole {P : Program} {w : World} {K : PySem.W.Frag} {mg : Str → Option Value} {base : Heap} {f : Addr} {fd : FuncData}
    (F : FunD K "_law_whole" "_law_whole" (defArgs s__law_whole) (defBody s__law_whole) (defScope s__law_whole) [] [] f fd) (g : mg "_law_whole" = some (.ref f))
    (m_bool : mg "bool" = none)
    (m_int : mg "int" = none)
    (m_isinstance : mg "isinstance" = none) : FD P w K mg base 1 "_law_whole" ["_law_thing_here"] [0] phi__law_whole := by
  refine fd_D F g (fun _ _ _ _ _ _ us hl => match us, hl with | [_], _ => rfl) sc__law_whole rfl fun cdv A outer s H E hr => ?_
  have sc := sc__law_whole
  have hu := hr.units
  have tk : Takes (cxOf (L2.CX P w) P w K mg base ["_law_thing_here"] "_law_whole" (defScope s__law_whole) f cdv A outer s H E) (WF E) := takes_of rfl rfl rfl rfl
  have po : PassesOwn (model P w) (A.deeper (envOfC "_law_whole" (defScope s__law_whole) s.heap.objs.size f cdv)) (envOfC "_law_whole" (defScope s__law_whole) s.heap.objs.size f cdv) (cxOf (L2.CX P w) P w K mg base ["_law_thing_here"] "_law_whole" (defScope s__law_whole) f cdv A outer s H E).xe := passes_of rfl
  exact (dss_cons (ds_ret (de_and (d_isi m_isinstance (by rfl) (pe_bltn rfl m_int (by decide +kernel) rfl) okTy_int (de_var (pv 0))) (de_one (de_not (d_isi m_isinstance (by rfl) (pe_bltn rfl m_bool (by decide +kernel) rfl) okTy_bool (de_var (pv 0)))))))
  dss_nil)
noncomputable def b__law_is_price : SV := (sSeq (sIf (tOrD (tNotD (tT (e1 (gIsi "tuple") (eVar 0)))) (tT (e2 gNe (eN gLen (aCons (eVar 0) aNil)) (eC (.int 2))))) (sSeq (sRet (eC (.bl false)))
  sNext) sNext)
  (sSeq (sIf (tOrD (tNotD (tT (eCall [0] [none] phi__law_whole (aCons (e2 gIx (eVar 0) (eC (.int 0))) aNil)))) (tNotD (tT (eCall [0] [none] phi__law_whole (aCons (e2 gIx (eVar 0) (eC (.int 1))) aNil))))) (sSeq (sRet (eC (.bl false)))
  sNext) sNext)
  (sSeq (sRet (eAnd (e2 gGe (e2 gIx (eVar 0) (eC (.int 0))) (eC (.int 0))) (eAnd (e2 gGt (e2 gIx (eVar 0) (eC (.int 1))) (eC (.int 0))) (e2 gEq (eCall [0, 0] [none, none] phi__law_lowest (aCons (e2 gIx (eVar 0) (eC (.int 0))) (aCons (e2 gIx (eVar 0) (eC (.int 1))) aNil))) (eVar 0)))))
  sNext)))
noncomputable def phi__law_is_price : FV := runF [0] 1 b__law_is_price
theorem sc__law_is_price : FnScope ["_law_thing_here"] ["_law_thing_here"] (defScope s__law_is_price) := ⟨rfl, rfl, rfl, by decide +kernel, rfl, by decide +kernel, by decide +kernel⟩
theorem fd__law_is_price {P : Program} {w : World} {K : PySem.W.Frag} {mg : Str → Option Value} {base : Heap} {f : Addr} {fd : FuncData}
    (F : FunD K "_law_is_price" "_law_is_price" (defArgs s__law_is_price) (defBody s__law_is_price) (defScope s__law_is_price) [] [] f fd) (g : mg "_law_is_price" = some (.ref f))
    (c__law_lowest : FD P w K mg base 1 "_law_lowest" ["_law_top", "_law_bottom"] [0, 0] phi__law_lowest)
    (c__law_whole : FD P w K mg base 1 "_law_whole" ["_law_thing_here"] [0] phi__law_whole)
    (m_isinstance : mg "isinstance" = none)
    (m_len : mg "len" = none)
    (m_tuple : mg "tuple" = none) : FD P w K mg base 2 "_law_is_price" ["_law_thing_here"] [0] phi__law_is_price := by
  refine fd_D F g (fun _ _ _ _ _ _ us hl => match us, hl with | [_], _ => rfl) sc__law_is_price rfl fun cdv A outer s H E hr => ?_
  have sc := sc__law_is_price
  have hu := hr.units
  have tk : Takes (cxOf (L2.CX P w) P w K mg base ["_law_thing_here"] "_law_is_price" (defScope s__law_is_price) f cdv A outer s H E) (WF E) := takes_of rfl rfl rfl rfl
  have po : PassesOwn (model P w) (A.deeper (envOfC "_law_is_price" (defScope s__law_is_price) s.heap.objs.size f cdv)) (envOfC "_law_is_price" (defScope s__law_is_price) s.heap.objs.size f cdv) (cxOf (L2.CX P w) P w K mg base ["_law_thing_here"] "_law_is_price" (defScope s__law_is_price) f cdv A outer s H E).xe := passes_of rfl
  exact (dss_cons (ds_if (dw_dt (dw_or (dt_not (dt_val (d_isi m_isinstance (by rfl) (pe_bltn rfl m_tuple (by decide +kernel) rfl) okTy_tuple (de_var (pv 0))) (fun _ => rfl))) (dw_or1 (t_ne hu (d_len m_len (by rfl) (da_cons (de_var (pv 0)) da_nil rfl)) d_int)))) (dss_cons (ds_ret d_bl)
  dss_nil) dss_nil)
  (dss_cons (ds_if (dw_dt (dw_or (dt_not (dt_val (d_call c__law_whole tk hr (by decide) (by rfl) (dc_val (d_ix (de_var (pv 0)) d_int (fun _ _ => rfl)) dc_nil rfl)) (fun _ => rfl))) (dw_or1 (dt_not (dt_val (d_call c__law_whole tk hr (by decide) (by rfl) (dc_val (d_ix (de_var (pv 0)) d_int (fun _ _ => rfl)) dc_nil rfl)) (fun _ => rfl)))))) (dss_cons (ds_ret d_bl)
  dss_nil) dss_nil)
  (dss_cons (ds_ret (de_and (d_ge (d_ix (de_var (pv 0)) d_int (fun _ _ => rfl)) d_int) (de_and (d_gt (d_ix (de_var (pv 0)) d_int (fun _ _ => rfl)) d_int) (de_one (d_eq hu (d_call c__law_lowest tk hr (by decide) (by rfl) (dc_val (d_ix (de_var (pv 0)) d_int (fun _ _ => rfl)) (dc_val (d_ix (de_var (pv 0)) d_int (fun _ _ => rfl)) dc_nil rfl) rfl)) (de_var (pv 0)))))))
  dss_nil)))
noncomputable def b__law_due : SV := (sSeq (sIf (tNotD (tT (e1 (gIsi "list") (eVar 1)))) (sSeq (sRet (eLst (aCons (eC (.str "prices")) (aCons (eC .non) aNil))))
  sNext) sNext)
  (sSeq (sFor (.tp [(true, 2), (true, 3)]) (iEnumD (aCons (eVar 1) aNil)) (sSeq (sIf (tOrD (tT (e2 gEq (eVar 2) (eVar 0))) (tNotD (tT (eCall [0] [none] phi__law_is_price (aCons (eVar 3) aNil))))) (sSeq (sRet (eLst (aCons (eC (.str "prices")) (aCons (eVar 2) aNil))))
  sNext) sNext)
  sNext))
  (sSeq (sIf (tT (e2 gLt (eN gLen (aCons (eVar 1) aNil)) (eVar 0))) (sSeq (sRet (eLst (aCons (eC (.str "prices")) (aCons (eN gLen (aCons (eVar 1) aNil)) aNil))))
  sNext) sNext)
  (sSeq (sRet (eLst (aCons (eC (.str "good")) aNil)))
  sNext))))
noncomputable def phi__law_due : FV := runF [0, 0] 4 b__law_due
theorem sc__law_due : FnScope ["_law_many", "_law_thing_here", "_law_place", "_law_one"] ["_law_many", "_law_thing_here"] (defScope s__law_due) := ⟨rfl, rfl, rfl, by decide +kernel, rfl, by decide +kernel, by decide +kernel⟩
theorem fd__law_due {P : Program} {w : World} {K : PySem.W.Frag} {mg : Str → Option Value} {base : Heap} {f : Addr} {fd : FuncData}
    (F : FunD K "_law_due" "_law_due" (defArgs s__law_due) (defBody s__law_due) (defScope s__law_due) [] [] f fd) (g : mg "_law_due" = some (.ref f))
    (c__law_is_price : FD P w K mg base 2 "_law_is_price" ["_law_thing_here"] [0] phi__law_is_price)
    (m_enumerate : mg "enumerate" = none)
    (m_isinstance : mg "isinstance" = none)
    (m_len : mg "len" = none)
    (m_list : mg "list" = none) : FD P w K mg base 3 "_law_due" ["_law_many", "_law_thing_here"] [0, 0] phi__law_due := by
  refine fd_D F g (fun _ _ _ _ _ _ us hl => match us, hl with | [_, _], _ => rfl) sc__law_due rfl fun cdv A outer s H E hr => ?_
  have sc := sc__law_due
  have hu := hr.units
  have tk : Takes (cxOf (L2.CX P w) P w K mg base ["_law_many", "_law_thing_here", "_law_place", "_law_one"] "_law_due" (defScope s__law_due) f cdv A outer s H E) (WF E) := takes_of rfl rfl rfl rfl
  have po : PassesOwn (model P w) (A.deeper (envOfC "_law_due" (defScope s__law_due) s.heap.objs.size f cdv)) (envOfC "_law_due" (defScope s__law_due) s.heap.objs.size f cdv) (cxOf (L2.CX P w) P w K mg base ["_law_many", "_law_thing_here", "_law_place", "_law_one"] "_law_due" (defScope s__law_due) f cdv A outer s H E).xe := passes_of rfl
  exact (dss_cons (ds_if (dt_not (dt_val (d_isi m_isinstance (by rfl) (pe_bltn rfl m_list (by decide +kernel) rfl) okTy_list (de_var (pv 1))) (fun _ => rfl))) (dss_cons (ds_ret (de_lst (da_cons d_str (da_cons d_non da_nil rfl) rfl)))
  dss_nil) dss_nil)
  (dss_cons (ds_for po rfl (d_enum m_enumerate (by rfl) (da_cons (de_var (pv 1)) da_nil rfl)) (dg_tup rfl (dgs_cons (pg_name (i := 2) sc.nd rfl (by first | exact Or.inl rfl | exact Or.inr rfl)) (by decide) (dgs_cons (pg_name (i := 3) sc.nd rfl (by first | exact Or.inl rfl | exact Or.inr rfl)) (by decide) dgs_nil rfl) rfl) rfl rfl rfl) (dss_cons (ds_if (dw_dt (dw_or (t_eq hu (de_var (pv 2)) (de_var (pv 0))) (dw_or1 (dt_not (dt_val (d_call c__law_is_price tk hr (by decide) (by rfl) (dc_val (de_var (pv 3)) dc_nil rfl)) (fun _ => rfl)))))) (dss_cons (ds_ret (de_lst (da_cons d_str (da_cons (de_var (pv 2)) da_nil rfl) rfl)))
  dss_nil) dss_nil)
  dss_nil) (by intro _; rfl))
  (dss_cons (ds_if (t_lt (d_len m_len (by rfl) (da_cons (de_var (pv 1)) da_nil rfl)) (de_var (pv 0))) (dss_cons (ds_ret (de_lst (da_cons d_str (da_cons (d_len m_len (by rfl) (da_cons (de_var (pv 1)) da_nil rfl)) da_nil rfl) rfl)))
  dss_nil) dss_nil)
  (dss_cons (ds_ret (de_lst (da_cons d_str da_nil rfl)))
  dss_nil))))
noncomputable def b__law_kind : SV := (sSeq (sIf (tNotD (tT (e1 (gIsX tk_ValueError) (eVar 0)))) (sSeq (sRet (eC (.str "other")))
  sNext) sNext)
  (sSeq (sIf (tT (e1 (gIsX tk_NoKeep_NoShare_NoPointing_NoText_NoNumber_NoPlace) (eVar 0))) (sSeq (sRet (eC (.str "other")))
  sNext) sNext)
  (sSeq (sIf (tT (e1 (gIsX tk_NoChange_TooMany_NoRow_NoName) (eVar 0))) (sSeq (sRet (eC (.str "other")))
  sNext) sNext)
  (sSeq (sAsg (.nm (true, 1)) (eLst (aCons (e1 (gIsX tk_NoTree) (eVar 0)) (aCons (e1 (gIsX tk_NoAsks) (eVar 0)) (aCons (e1 (gIsX tk_NoPrices) (eVar 0)) aNil)))))
  (sSeq (sIf (tT (e2 gNe (e1 (gCnt (.bl true)) (eVar 1)) (eC (.int 1)))) (sSeq (sRet (eC (.str "other")))
  sNext) sNext)
  (sSeq (sRet (e2 gIx (eLst (aCons (eC (.str "tree")) (aCons (eC (.str "asks")) (aCons (eC (.str "prices")) aNil)))) (e1 (gIdx (.bl true)) (eVar 1))))
  sNext))))))
noncomputable def phi__law_kind : FV := runF [0] 2 b__law_kind
theorem sc__law_kind : FnScope ["_law_e", "_law_kinds"] ["_law_e"] (defScope s__law_kind) := ⟨rfl, rfl, rfl, by decide +kernel, rfl, by decide +kernel, by decide +kernel⟩
theorem fd__law_kind {P : Program} {w : World} {K : PySem.W.Frag} {mg : Str → Option Value} {base : Heap} {f : Addr} {fd : FuncData}
    (F : FunD K "_law_kind" "_law_kind" (defArgs s__law_kind) (defBody s__law_kind) (defScope s__law_kind) [] [] f fd) (g : mg "_law_kind" = some (.ref f))
    (m_ValueError : mg "ValueError" = none)
    (m_isinstance : mg "isinstance" = none)
    (g_NoPrices : mg "NoPrices" = some (.ref (He.ga K "NoPrices")))
    (k_tk_NoPrices : ∀ p ∈ tk_NoPrices, XcC K (He.ga K p.1) ∧ PySem.W.kitAny K (.ref (He.ga K p.1)) (([(.own "NoPrices")] : List CR).map (cvl K)) = some p.2)
    (g_NoAsks : mg "NoAsks" = some (.ref (He.ga K "NoAsks")))
    (k_tk_NoAsks : ∀ p ∈ tk_NoAsks, XcC K (He.ga K p.1) ∧ PySem.W.kitAny K (.ref (He.ga K p.1)) (([(.own "NoAsks")] : List CR).map (cvl K)) = some p.2)
    (g_NoTree : mg "NoTree" = some (.ref (He.ga K "NoTree")))
    (k_tk_NoTree : ∀ p ∈ tk_NoTree, XcC K (He.ga K p.1) ∧ PySem.W.kitAny K (.ref (He.ga K p.1)) (([(.own "NoTree")] : List CR).map (cvl K)) = some p.2)
    (g_NoChange : mg "NoChange" = some (.ref (He.ga K "NoChange")))
    (g_TooMany : mg "TooMany" = some (.ref (He.ga K "TooMany")))
    (g_NoRow : mg "NoRow" = some (.ref (He.ga K "NoRow")))
    (g_NoName : mg "NoName" = some (.ref (He.ga K "NoName")))
    (k_tk_NoChange_TooMany_NoRow_NoName : ∀ p ∈ tk_NoChange_TooMany_NoRow_NoName, XcC K (He.ga K p.1) ∧ PySem.W.kitAny K (.ref (He.ga K p.1)) (([(.own "NoChange"), (.own "TooMany"), (.own "NoRow"), (.own "NoName")] : List CR).map (cvl K)) = some p.2)
    (g_NoKeep : mg "NoKeep" = some (.ref (He.ga K "NoKeep")))
    (g_NoShare : mg "NoShare" = some (.ref (He.ga K "NoShare")))
    (g_NoPointing : mg "NoPointing" = some (.ref (He.ga K "NoPointing")))
    (g_NoText : mg "NoText" = some (.ref (He.ga K "NoText")))
    (g_NoNumber : mg "NoNumber" = some (.ref (He.ga K "NoNumber")))
    (g_NoPlace : mg "NoPlace" = some (.ref (He.ga K "NoPlace")))
    (k_tk_NoKeep_NoShare_NoPointing_NoText_NoNumber_NoPlace : ∀ p ∈ tk_NoKeep_NoShare_NoPointing_NoText_NoNumber_NoPlace, XcC K (He.ga K p.1) ∧ PySem.W.kitAny K (.ref (He.ga K p.1)) (([(.own "NoKeep"), (.own "NoShare"), (.own "NoPointing"), (.own "NoText"), (.own "NoNumber"), (.own "NoPlace")] : List CR).map (cvl K)) = some p.2)
    (k_tk_ValueError : ∀ p ∈ tk_ValueError, XcC K (He.ga K p.1) ∧ PySem.W.kitAny K (.ref (He.ga K p.1)) (([(.blt "ValueError")] : List CR).map (cvl K)) = some p.2) : FD P w K mg base 1 "_law_kind" ["_law_e"] [0] phi__law_kind := by
  refine fd_D F g (fun _ _ _ _ _ _ us hl => match us, hl with | [_], _ => rfl) sc__law_kind rfl fun cdv A outer s H E hr => ?_
  have sc := sc__law_kind
  have hu := hr.units
  have tk : Takes (cxOf (L2.CX P w) P w K mg base ["_law_e", "_law_kinds"] "_law_kind" (defScope s__law_kind) f cdv A outer s H E) (WF E) := takes_of rfl rfl rfl rfl
  have po : PassesOwn (model P w) (A.deeper (envOfC "_law_kind" (defScope s__law_kind) s.heap.objs.size f cdv)) (envOfC "_law_kind" (defScope s__law_kind) s.heap.objs.size f cdv) (cxOf (L2.CX P w) P w K mg base ["_law_e", "_law_kinds"] "_law_kind" (defScope s__law_kind) f cdv A outer s H E).xe := passes_of rfl
  exact (dss_cons (ds_if (dt_not (dt_val (d_isx (cp := (.blt "ValueError")) m_isinstance (by rfl) (pe_bltn (v := .ty "ValueError") rfl m_ValueError (by decide +kernel) rfl) k_tk_ValueError (de_var (pv 0))) (fun _ => rfl))) (dss_cons (ds_ret d_str)
  dss_nil) dss_nil)
  (dss_cons (ds_if (dt_val (d_isxt (cps := [(.own "NoKeep"), (.own "NoShare"), (.own "NoPointing"), (.own "NoText"), (.own "NoNumber"), (.own "NoPlace")]) m_isinstance (by rfl) (pa_cons (pe_glob (v := .ref (He.ga K "NoKeep")) (by rfl) g_NoKeep rfl) (pa_cons (pe_glob (v := .ref (He.ga K "NoShare")) (by rfl) g_NoShare rfl) (pa_cons (pe_glob (v := .ref (He.ga K "NoPointing")) (by rfl) g_NoPointing rfl) (pa_cons (pe_glob (v := .ref (He.ga K "NoText")) (by rfl) g_NoText rfl) (pa_cons (pe_glob (v := .ref (He.ga K "NoNumber")) (by rfl) g_NoNumber rfl) (pa_cons (pe_glob (v := .ref (He.ga K "NoPlace")) (by rfl) g_NoPlace rfl) pa_nil)))))) (Nat.le_of_ble_eq_true rfl) k_tk_NoKeep_NoShare_NoPointing_NoText_NoNumber_NoPlace (de_var (pv 0))) (fun _ => rfl)) (dss_cons (ds_ret d_str)
  dss_nil) dss_nil)
  (dss_cons (ds_if (dt_val (d_isxt (cps := [(.own "NoChange"), (.own "TooMany"), (.own "NoRow"), (.own "NoName")]) m_isinstance (by rfl) (pa_cons (pe_glob (v := .ref (He.ga K "NoChange")) (by rfl) g_NoChange rfl) (pa_cons (pe_glob (v := .ref (He.ga K "TooMany")) (by rfl) g_TooMany rfl) (pa_cons (pe_glob (v := .ref (He.ga K "NoRow")) (by rfl) g_NoRow rfl) (pa_cons (pe_glob (v := .ref (He.ga K "NoName")) (by rfl) g_NoName rfl) pa_nil)))) (Nat.le_of_ble_eq_true rfl) k_tk_NoChange_TooMany_NoRow_NoName (de_var (pv 0))) (fun _ => rfl)) (dss_cons (ds_ret d_str)
  dss_nil) dss_nil)
  (dss_cons (ds_asg (de_lst (da_cons (d_isx (cp := (.own "NoTree")) m_isinstance (by rfl) (pe_glob (v := .ref (He.ga K "NoTree")) (by rfl) g_NoTree rfl) k_tk_NoTree (de_var (pv 0))) (da_cons (d_isx (cp := (.own "NoAsks")) m_isinstance (by rfl) (pe_glob (v := .ref (He.ga K "NoAsks")) (by rfl) g_NoAsks rfl) k_tk_NoAsks (de_var (pv 0))) (da_cons (d_isx (cp := (.own "NoPrices")) m_isinstance (by rfl) (pe_glob (v := .ref (He.ga K "NoPrices")) (by rfl) g_NoPrices rfl) k_tk_NoPrices (de_var (pv 0))) da_nil rfl) rfl) rfl)) (dg_name (pg_name (i := 1) sc.nd rfl (by first | exact Or.inl rfl | exact Or.inr rfl)) (by decide)) rfl rfl rfl)
  (dss_cons (ds_if (t_ne hu (d_count (d := .bl true) (de_var (pv 1)) pe_bl (fun _ _ => by simp [Rp])) d_int) (dss_cons (ds_ret d_str)
  dss_nil) dss_nil)
  (dss_cons (ds_ret (d_ix (de_lst (da_cons d_str (da_cons d_str (da_cons d_str da_nil rfl) rfl) rfl)) (d_index (d := .bl true) (de_var (pv 1)) pe_bl (fun _ _ => by simp [Rp])) (fun _ _ => rfl)))
  dss_nil))))))
noncomputable def b__law_told : SV := (sSeq (sAsg (.nm (true, 2)) (eC .non))
  (sSeq (sAsg (.nm (true, 3)) (eC .non))
  (sSeq (sTry (sSeq (sAsg (.nm (true, 3)) (eCall [0, 0] [none, none] phi_look_at_prices (aCons (eVar 0) (aCons (eVar 1) aNil))))
  sNext) [(te_AskError, some 4, (sSeq (sAsg (.nm (true, 2)) (eVar 4))
  sNext))])
  (sSeq (sIf (tT (e2 gIs (eVar 2) (eC .non))) (sSeq (sRet (eLst (aCons (e2 gIx (eLst (aCons (eC (.str "told")) (aCons (eC (.str "good")) aNil))) (eN gInt (aCons (e2 gIs (eVar 3) (eC .non)) aNil))) aNil)))
  sNext) sNext)
  (sSeq (sIf (tAndD (tT (e2 gEq (eCall [0] [none] phi__law_kind (aCons (eVar 2) aNil)) (eC (.str "prices")))) (tNotD (tT (e1 (gIsi "bool") (e1 (gAt cl_number "number") (eVar 2)))))) (sSeq (sRet (eLst (aCons (eC (.str "prices")) (aCons (e1 (gAt cl_number "number") (eVar 2)) aNil))))
  sNext) sNext)
  (sSeq (sRet (eLst (aCons (eC (.str "other")) aNil)))
  sNext))))))
noncomputable def phi__law_told : FV := runF [0, 0] 5 b__law_told
theorem sc__law_told : FnScope ["_law_tree_here", "_law_thing_here", "_law_kept", "_law_found", "_law_e"] ["_law_tree_here", "_law_thing_here"] (defScope s__law_told) := ⟨rfl, rfl, rfl, by decide +kernel, rfl, by decide +kernel, by decide +kernel⟩
theorem fd__law_told {P : Program} {w : World} {K : PySem.W.Frag} {mg : Str → Option Value} {base : Heap} {f : Addr} {fd : FuncData}
    (F : FunD K "_law_told" "_law_told" (defArgs s__law_told) (defBody s__law_told) (defScope s__law_told) [] [] f fd) (g : mg "_law_told" = some (.ref f))
    (c__law_kind : FD P w K mg base 1 "_law_kind" ["_law_e"] [0] phi__law_kind)
    (c_look_at_prices : FD P w K mg base 4 "look_at_prices" ["tree", "thing"] [0, 0] phi_look_at_prices)
    (m_bool : mg "bool" = none)
    (m_int : mg "int" = none)
    (m_isinstance : mg "isinstance" = none)
    (a_number : ∀ c ∈ cl_number, XcC K (He.ga K c) ∧ PySem.W.findIn K (.ref (He.ga K c)) "number" = some none)
    (g_AskError : mg "AskError" = some (.ref (He.ga K "AskError")))
    (t_AskError : ∀ p ∈ te_AskError, PySem.W.exmOne K (.ref (He.ga K p.1)) (cvl K (.own "AskError")) = some p.2) : FD P w K mg base 5 "_law_told" ["_law_tree_here", "_law_thing_here"] [0, 0] phi__law_told := by
  refine fd_D F g (fun _ _ _ _ _ _ us hl => match us, hl with | [_, _], _ => rfl) sc__law_told rfl fun cdv A outer s H E hr => ?_
  have sc := sc__law_told
  have hu := hr.units
  have tk : Takes (cxOf (L2.CX P w) P w K mg base ["_law_tree_here", "_law_thing_here", "_law_kept", "_law_found", "_law_e"] "_law_told" (defScope s__law_told) f cdv A outer s H E) (WF E) := takes_of rfl rfl rfl rfl
  have po : PassesOwn (model P w) (A.deeper (envOfC "_law_told" (defScope s__law_told) s.heap.objs.size f cdv)) (envOfC "_law_told" (defScope s__law_told) s.heap.objs.size f cdv) (cxOf (L2.CX P w) P w K mg base ["_law_tree_here", "_law_thing_here", "_law_kept", "_law_found", "_law_e"] "_law_told" (defScope s__law_told) f cdv A outer s H E).xe := passes_of rfl
  exact (dss_cons (ds_asg d_non (dg_name (pg_name (i := 2) sc.nd rfl (by first | exact Or.inl rfl | exact Or.inr rfl)) (by decide)) rfl rfl rfl)
  (dss_cons (ds_asg d_non (dg_name (pg_name (i := 3) sc.nd rfl (by first | exact Or.inl rfl | exact Or.inr rfl)) (by decide)) rfl rfl rfl)
  (dss_cons (ds_try rfl rfl sc.nd rfl tk (List.cons_ne_nil _ _) (fun W' pn xe tk po => (dss_cons (ds_asg (d_call c_look_at_prices tk hr (by decide) (by rfl) (dc_val (de_var (pv 0)) (dc_val (de_var (pv 1)) dc_nil rfl) rfl)) (dg_name (pg_name (i := 3) sc.nd rfl (by first | exact Or.inl rfl | exact Or.inr rfl)) (by decide)) rfl rfl rfl)
  dss_nil)) (HsD.as (i := 4) rfl rfl (by decide) ⟨by rfl, by decide, Or.inl g_AskError⟩ t_AskError (fun a pn => (dss_cons (ds_asg (de_var (pv 4)) (dg_name (pg_name (i := 2) sc.nd rfl (by first | exact Or.inl rfl | exact Or.inr rfl)) (by decide)) rfl rfl rfl)
  dss_nil)) HsD.nil))
  (dss_cons (ds_if (t_is (de_var (pv 2)) d_non) (dss_cons (ds_ret (de_lst (da_cons (d_ix (de_lst (da_cons d_str (da_cons d_str da_nil rfl) rfl)) (d_toint m_int (by rfl) (da_cons (d_is (de_var (pv 3)) d_non) da_nil rfl)) (fun _ _ => rfl)) da_nil rfl)))
  dss_nil) dss_nil)
  (dss_cons (ds_if (dw_dt (dw_and (t_eq hu (d_call c__law_kind tk hr (by decide) (by rfl) (dc_val (de_var (pv 2)) dc_nil rfl)) d_str) (dw_and1 (dt_not (dt_val (d_isi m_isinstance (by rfl) (pe_bltn rfl m_bool (by decide +kernel) rfl) okTy_bool (d_attr a_number (de_var (pv 2)))) (fun _ => rfl)))))) (dss_cons (ds_ret (de_lst (da_cons d_str (da_cons (d_attr a_number (de_var (pv 2))) da_nil rfl) rfl)))
  dss_nil) dss_nil)
  (dss_cons (ds_ret (de_lst (da_cons d_str da_nil rfl)))
  dss_nil))))))
noncomputable def b_law : SV := (sSeq (sAsg (.nm (true, 1)) (eCall [1, 0] [none, none] phi__law_tree (aCons (eCall [0, 0] [none, none] phi__law_source (aCons (eCall [0, 0] [none, none] phi__law_cell (aCons (eVar 0) (aCons (eC (.int 0)) aNil))) (aCons (eC (.int 0)) aNil))) (aCons (eC (.int 23)) aNil))))
  (sSeq (sAsg (.nm (true, 2)) (eTup (aCons (eN gList (aCons (e2 gIx (eVar 1) (eC (.int 0))) aNil)) (aCons (eN gList (aCons (e2 gIx (eVar 1) (eC (.int 1))) aNil)) aNil))))
  (sSeq (sFor (.nm (true, 3)) (iR2 (aCons (eC (.int 1)) (aCons (eN gMax (aCons (eC (.int 4)) (aCons (eN gMin (aCons (eN gLen (aCons (eVar 0) aNil)) (aCons (eC (.int 41)) aNil))) aNil))) aNil))) (sSeq (sAsg (.nm (true, 4)) (eCall [0, 1] [none, none] phi__law_thing (aCons (eN gLen (aCons (e2 gIx (eVar 1) (eC (.int 0))) aNil)) (aCons (eCall [0, 0] [none, none] phi__law_source (aCons (eCall [0, 0] [none, none] phi__law_cell (aCons (eVar 0) (aCons (eVar 3) aNil))) (aCons (eVar 3) aNil))) aNil))))
  (sSeq (sAsg (.nm (true, 5)) (eCall [0, 0] [none, none] phi__law_due (aCons (eN gLen (aCons (e2 gIx (eVar 1) (eC (.int 0))) aNil)) (aCons (eVar 4) aNil))))
  (sSeq (sAsg (.nm (true, 6)) (eVar 4))
  (sSeq (sIf (tT (e1 (gIsi "list") (eVar 4))) (sSeq (sAsg (.nm (true, 6)) (eN gList (aCons (eVar 4) aNil)))
  sNext) sNext)
  (sSeq (sIf (tOrD (tT (e2 gNeE (eCall [0, 0] [none, none] phi__law_told (aCons (eVar 1) (aCons (eVar 4) aNil))) (eVar 5))) (tOrD (tT (e2 gNeE (eVar 4) (eVar 6))) (tT (e2 gNeE (eVar 1) (eVar 2))))) (sSeq (sRet (eC (.bl false)))
  sNext) sNext)
  sNext))))))
  (sSeq (sRet (eC (.bl true)))
  sNext))))
noncomputable def phi_law : FV := runF [0] 7 b_law
theorem sc_law : FnScope ["_law_script", "_law_tree_here", "_law_kept", "_law_k", "_law_thing_here", "_law_due_here", "_law_copied"] ["_law_script"] (defScope s_law) := ⟨rfl, rfl, rfl, by decide +kernel, rfl, by decide +kernel, by decide +kernel⟩
theorem fd_law_ok {P : Program} {w : World} {K : PySem.W.Frag} {mg : Str → Option Value} {base : Heap} {f : Addr} {fd : FuncData}
    (F : FunD K "law" "law" (defArgs s_law) (defBody s_law) (defScope s_law) [] [] f fd) (g : mg "law" = some (.ref f))
    (c__law_told : FD P w K mg base 5 "_law_told" ["_law_tree_here", "_law_thing_here"] [0, 0] phi__law_told)
    (c__law_due : FD P w K mg base 3 "_law_due" ["_law_many", "_law_thing_here"] [0, 0] phi__law_due)
    (c__law_thing : FD P w K mg base 4 "_law_thing" ["_law_many", "_law_source_here"] [0, 1] phi__law_thing)
    (c__law_source : FD P w K mg base 1 "_law_source" ["_law_cell_here", "_law_k"] [0, 0] phi__law_source)
    (c__law_cell : FD P w K mg base 1 "_law_cell" ["_law_script", "_law_k"] [0, 0] phi__law_cell)
    (c__law_tree : FD P w K mg base 2 "_law_tree" ["_law_source_here", "_law_most"] [1, 0] phi__law_tree)
    (m_isinstance : mg "isinstance" = none)
    (m_len : mg "len" = none)
    (m_list : mg "list" = none)
    (m_max : mg "max" = none)
    (m_min : mg "min" = none)
    (m_range : mg "range" = none) : FnOk P w K mg base (L2.CX P w) 6 f fd ["_law_script"] (spD K mg [0] phi_law) := by
  refine ok_D F sc_law rfl fun cdv A outer s H E hr => ?_
  have sc := sc_law
  have hu := hr.units
  have tk : Takes (cxOf (L2.CX P w) P w K mg base ["_law_script", "_law_tree_here", "_law_kept", "_law_k", "_law_thing_here", "_law_due_here", "_law_copied"] "law" (defScope s_law) f cdv A outer s H E) (WF E) := takes_of rfl rfl rfl rfl
  have po : PassesOwn (model P w) (A.deeper (envOfC "law" (defScope s_law) s.heap.objs.size f cdv)) (envOfC "law" (defScope s_law) s.heap.objs.size f cdv) (cxOf (L2.CX P w) P w K mg base ["_law_script", "_law_tree_here", "_law_kept", "_law_k", "_law_thing_here", "_law_due_here", "_law_copied"] "law" (defScope s_law) f cdv A outer s H E).xe := passes_of rfl
  exact (dss_cons (ds_asg (d_call c__law_tree tk hr (by decide) (by rfl) (dc_val (d_call c__law_source tk hr (by decide) (by rfl) (dc_val (d_call c__law_cell tk hr (by decide) (by rfl) (dc_val (de_var (pv 0)) (dc_val d_int dc_nil rfl) rfl)) (dc_val d_int dc_nil rfl) rfl)) (dc_val d_int dc_nil rfl) rfl)) (dg_name (pg_name (i := 1) sc.nd rfl (by first | exact Or.inl rfl | exact Or.inr rfl)) (by decide)) rfl rfl rfl)
  (dss_cons (ds_asg (de_tup (da_cons (d_list m_list (by rfl) (da_cons (d_ix (de_var (pv 1)) d_int (fun _ _ => rfl)) da_nil rfl)) (da_cons (d_list m_list (by rfl) (da_cons (d_ix (de_var (pv 1)) d_int (fun _ _ => rfl)) da_nil rfl)) da_nil rfl) rfl)) (dg_name (pg_name (i := 2) sc.nd rfl (by first | exact Or.inl rfl | exact Or.inr rfl)) (by decide)) rfl rfl rfl)
  (dss_cons (ds_for po rfl (d_range2 m_range (by rfl) (da_cons d_int (da_cons (d_max rfl m_max (by rfl) (da_cons d_int (da_cons (d_min rfl m_min (by rfl) (da_cons (d_len m_len (by rfl) (da_cons (de_var (pv 0)) da_nil rfl)) (da_cons d_int da_nil rfl) rfl)) da_nil rfl) rfl)) da_nil rfl) rfl)) (dg_name (pg_name (i := 3) sc.nd rfl (by first | exact Or.inl rfl | exact Or.inr rfl)) (by decide)) (dss_cons (ds_asg (d_call c__law_thing tk hr (by decide) (by rfl) (dc_val (d_len m_len (by rfl) (da_cons (d_ix (de_var (pv 1)) d_int (fun _ _ => rfl)) da_nil rfl)) (dc_val (d_call c__law_source tk hr (by decide) (by rfl) (dc_val (d_call c__law_cell tk hr (by decide) (by rfl) (dc_val (de_var (pv 0)) (dc_val (de_var (pv 3)) dc_nil rfl) rfl)) (dc_val (de_var (pv 3)) dc_nil rfl) rfl)) dc_nil rfl) rfl)) (dg_name (pg_name (i := 4) sc.nd rfl (by first | exact Or.inl rfl | exact Or.inr rfl)) (by decide)) rfl rfl rfl)
  (dss_cons (ds_asg (d_call c__law_due tk hr (by decide) (by rfl) (dc_val (d_len m_len (by rfl) (da_cons (d_ix (de_var (pv 1)) d_int (fun _ _ => rfl)) da_nil rfl)) (dc_val (de_var (pv 4)) dc_nil rfl) rfl)) (dg_name (pg_name (i := 5) sc.nd rfl (by first | exact Or.inl rfl | exact Or.inr rfl)) (by decide)) rfl rfl rfl)
  (dss_cons (ds_asg (de_var (pv 4)) (dg_name (pg_name (i := 6) sc.nd rfl (by first | exact Or.inl rfl | exact Or.inr rfl)) (by decide)) rfl rfl rfl)
  (dss_cons (ds_if (dt_val (d_isi m_isinstance (by rfl) (pe_bltn rfl m_list (by decide +kernel) rfl) okTy_list (de_var (pv 4))) (fun _ => rfl)) (dss_cons (ds_asg (d_list m_list (by rfl) (da_cons (de_var (pv 4)) da_nil rfl)) (dg_name (pg_name (i := 6) sc.nd rfl (by first | exact Or.inl rfl | exact Or.inr rfl)) (by decide)) rfl rfl rfl)
  dss_nil) dss_nil)
  (dss_cons (ds_if (dw_dt (dw_or (t_neE hu (d_call c__law_told tk hr (by decide) (by rfl) (dc_val (de_var (pv 1)) (dc_val (de_var (pv 4)) dc_nil rfl) rfl)) (de_var (pv 5))) (dw_or (t_neE hu (de_var (pv 4)) (de_var (pv 6))) (dw_or1 (t_neE hu (de_var (pv 1)) (de_var (pv 2))))))) (dss_cons (ds_ret d_bl)
  dss_nil) dss_nil)
  dss_nil))))) (by intro _; rfl))
  (dss_cons (ds_ret d_bl)
  dss_nil))))
local macro_rules | `(tactic| walk_at "dl") => `(tactic| simp (maxDischargeDepth := 8) only [rk_tk_NoPrices_AskError, rk_tk_NoPrices_NoNumber, rk_tk_NoPrices_NoTree, rk_tk_NoPrices_NoAsks, rk_tk_NoPrices_NoKeep, rk_tk_NoPrices_NoPrices, rk_tk_NoPrices_NoShare, rk_tk_NoPrices_NoPointing, rk_tk_NoPrices_NoText, rk_tk_NoPrices_NoPlace, rk_tk_NoPrices_NoChange, rk_tk_NoPrices_TooMany, rk_tk_NoPrices_NoRow, rk_tk_NoPrices_NoName, rk_tk_NoAsks_AskError, rk_tk_NoAsks_NoNumber, rk_tk_NoAsks_NoTree, rk_tk_NoAsks_NoAsks, rk_tk_NoAsks_NoKeep, rk_tk_NoAsks_NoPrices, rk_tk_NoAsks_NoShare, rk_tk_NoAsks_NoPointing, rk_tk_NoAsks_NoText, rk_tk_NoAsks_NoPlace, rk_tk_NoAsks_NoChange, rk_tk_NoAsks_TooMany, rk_tk_NoAsks_NoRow, rk_tk_NoAsks_NoName, rk_tk_NoTree_AskError, rk_tk_NoTree_NoNumber, rk_tk_NoTree_NoTree, rk_tk_NoTree_NoAsks, rk_tk_NoTree_NoKeep, rk_tk_NoTree_NoPrices, rk_tk_NoTree_NoShare, rk_tk_NoTree_NoPointing, rk_tk_NoTree_NoText, rk_tk_NoTree_NoPlace, rk_tk_NoTree_NoChange, rk_tk_NoTree_TooMany, rk_tk_NoTree_NoRow, rk_tk_NoTree_NoName, rk_tk_NoChange_TooMany_NoRow_NoName_AskError, rk_tk_NoChange_TooMany_NoRow_NoName_NoNumber, rk_tk_NoChange_TooMany_NoRow_NoName_NoTree, rk_tk_NoChange_TooMany_NoRow_NoName_NoAsks, rk_tk_NoChange_TooMany_NoRow_NoName_NoKeep, rk_tk_NoChange_TooMany_NoRow_NoName_NoPrices, rk_tk_NoChange_TooMany_NoRow_NoName_NoShare, rk_tk_NoChange_TooMany_NoRow_NoName_NoPointing, rk_tk_NoChange_TooMany_NoRow_NoName_NoText, rk_tk_NoChange_TooMany_NoRow_NoName_NoPlace, rk_tk_NoChange_TooMany_NoRow_NoName_NoChange, rk_tk_NoChange_TooMany_NoRow_NoName_TooMany, rk_tk_NoChange_TooMany_NoRow_NoName_NoRow, rk_tk_NoChange_TooMany_NoRow_NoName_NoName, rk_tk_NoKeep_NoShare_NoPointing_NoText_NoNumber_NoPlace_AskError, rk_tk_NoKeep_NoShare_NoPointing_NoText_NoNumber_NoPlace_NoNumber, rk_tk_NoKeep_NoShare_NoPointing_NoText_NoNumber_NoPlace_NoTree, rk_tk_NoKeep_NoShare_NoPointing_NoText_NoNumber_NoPlace_NoAsks, rk_tk_NoKeep_NoShare_NoPointing_NoText_NoNumber_NoPlace_NoKeep, rk_tk_NoKeep_NoShare_NoPointing_NoText_NoNumber_NoPlace_NoPrices, rk_tk_NoKeep_NoShare_NoPointing_NoText_NoNumber_NoPlace_NoShare, rk_tk_NoKeep_NoShare_NoPointing_NoText_NoNumber_NoPlace_NoPointing, rk_tk_NoKeep_NoShare_NoPointing_NoText_NoNumber_NoPlace_NoText, rk_tk_NoKeep_NoShare_NoPointing_NoText_NoNumber_NoPlace_NoPlace, rk_tk_NoKeep_NoShare_NoPointing_NoText_NoNumber_NoPlace_NoChange, rk_tk_NoKeep_NoShare_NoPointing_NoText_NoNumber_NoPlace_TooMany, rk_tk_NoKeep_NoShare_NoPointing_NoText_NoNumber_NoPlace_NoRow, rk_tk_NoKeep_NoShare_NoPointing_NoText_NoNumber_NoPlace_NoName, rk_tk_ValueError_AskError, rk_tk_ValueError_NoNumber, rk_tk_ValueError_NoTree, rk_tk_ValueError_NoAsks, rk_tk_ValueError_NoKeep, rk_tk_ValueError_NoPrices, rk_tk_ValueError_NoShare, rk_tk_ValueError_NoPointing, rk_tk_ValueError_NoText, rk_tk_ValueError_NoPlace, rk_tk_ValueError_NoChange, rk_tk_ValueError_TooMany, rk_tk_ValueError_NoRow, rk_tk_ValueError_NoName, rk_te_AskError_AskError, rk_te_AskError_NoNumber, rk_te_AskError_NoTree, rk_te_AskError_NoAsks, rk_te_AskError_NoKeep, rk_te_AskError_NoPrices, rk_te_AskError_NoShare, rk_te_AskError_NoPointing, rk_te_AskError_NoText, rk_te_AskError_NoPlace, rk_te_AskError_NoChange, rk_te_AskError_TooMany, rk_te_AskError_NoRow, rk_te_AskError_NoName, rk_cl_number_NoTree, rk_f_cl_number_NoTree, rk_cl_number_NoAsks, rk_f_cl_number_NoAsks, rk_cl_number_NoKeep, rk_f_cl_number_NoKeep, rk_cl_number_NoPrices, rk_f_cl_number_NoPrices, rk_cl_number_NoShare, rk_f_cl_number_NoShare, eDsp_k, kdsp_ok, vals_nil, vals_cons, consV_ok, vC_k, vVar_k, lk0_ok, sStore1_k, ksto1_ok, sto1O_k, sto1O1_k, sto1O2_k, at1_k, at1O_k, put1_k, put1O_k, sRev1_k, rev1LO_k, rev1L_k, eDGet_k, kdg_ok, kdg1_ok, kdg2_ok, gDGet_i, gInK_i, gNotInK_i, isDct1_k, sDPut_k, kdp_ok, kdp1_ok, dpO_k, sRev_k, revO_k, rev1_k, sRem_k, krem_ok, remO_k, rem1_k, iR3_k, kr3_b, kr3_exc, ePop0_k, pop0_0k, eIdx_k, kidx_ok, kidx2_ok, sAppV_k, appV_k, thn_exc, eView_k, kview_ok, kview_exc, vwO_k, vwX_k, view_nil, view_t, view_f, fz1_some, fz1_none, merge_nil, merge_t, merge_f, mg2_k, mg1_none, mg1_z, mg1_s, mg1_n, mg1_d, clean_int, clean_bl, clean_non, clean_str, clean_tup, clean_lst, cleans_nil, cleans_cons, cleans_ints, cleans_app, put_tup, putO_k, tView_k, ktv_ok, vwT_k, sView_k, kvs_nx, kvs_ret, vsN_k, mergeS_nil, mergeS_t, mergeS_f, mgS_none, mgS_c, mgS_z, eIxM_k, kixm_0, kixm_1, kixm_z0, kixm_z1, sClear_k, clrO_k, clr1_k, sTry_k, ktry_nx, ktry_brk, ktry_cnt, ktry_ret, ktry_exc, hTry_nil, hTry_cons, selH_t, selH_f, hGo_s, hGo_n, nxH_k, endH_nx, endH_brk, endH_cnt, endH_ret, wipeH_s, wipeH_n, xd_cls, xd_ns, xd_ds, gIsX_k, isxO_s, gAt_k, atxO_t, isNon_x, clean_exn, sRaise0_k, sRaiseN_k, krai_1, krai_2, isi_exn, k1_exc, k2b_exc, k2_exc, kn_exc, kc_exc, ka_exc, kt_exc, tand_exc, tor_exc, tnot_exc, tsel_exc, kand_exc, kor_exc, knot_exc, kch3_exc, kch1_exc, kch_exc, ktup_exc, klst_exc, ksl3_exc, ksl2_exc, ksl_exc, ko_exc, kixo_exc, tselS_exc, kret_exc, kdrop_exc, kasg_exc, kpar2_exc, kpar_exc, kapp_exc, ksto2_exc, ksto_exc, kfor_exc, kiseq_exc, kr1_exc, kr2_exc, ken_exc, kzip_exc, krev_exc, kcall_exc, kixm_exc, krai_exc, gCnt_k, cntO_t, gIdx_k, gRev_k, ePop_k, kpop_ok, popO_k, popO1_k, sIns_k, kins_ok, kins2_ok, insO_k, sFrz_k, frzO_k, e1_k, k1_ok, e2_k, k2_ok, k2b_ok, eN_k, kn_ok, aCons_k, ka_ok, kc_ok, aNil_k, eC_k, toRes_none, toRes_pair, look_0, look_s, put_0, put_s, has_0, has_s, eVar_k, vOk_k, eMove_k, mOk_k, tT_k, kt_ok, tAnd_k, tOr_k, tNot_k, and_t, and_f, or_t, or_f, not_k, eIf_k, sel_t, sel_f, eAnd_k, eOr_k, eNot_k, kand_t, kand_f, kor_t, kor_f, knot_k, eChain_k, kch_ok, kch1_ok, kch2_t, kch2_f, kch3_ok, eTup_k, eLst_k, eSl_k, ksl_ok, ksl2_ok, ksl3_ok, oNone_k, oSome_k, ko_ok, eIxO_k, kixo_ok, ixO0_k, ixO1_k, sSeq_k, thn_nx, thn_ret, thn_brk, thn_cnt, sNext_k, sBrk_k, sCnt_k, sRetN_k, sIf_k, selS_t, selS_f, sRet_k, kret_ok, sExpr_k, kdrop_ok, sAsg_k, kasg_ok, nxO_some, oneO_t, setOne_k, set_nm, set_tup, set_lst0, set_lstS, many_nil, many_cons, manyO_some, md_t, md_f, sPar_k, kpar_ok, kpar2_ok, parO_some, sApp_k, kapp_ok, appO_k, appO1_k, sStore_k, ksto_ok, ksto2_ok, stoO_k, stoO1_k, stoO2_k, sFor_k, kfor_ok, kloop_nx, kloop_cnt, kloop_brk, kloop_ret, kloop_exc, iSeq_k, kiseq_l, kiseq_t, iR1_k, iR2_k, kr1_ok, kr2_ok, iEnum_k, iZip_k, iRev_k, ken_ok, kzip_ok, krev_ok, eCompN_k, kcomp_ok, wipe_nil, wipe_cons, cmpO_some, tYes_k, eCall_k, kcall_ok, bindO_some, kb_ok, kb_exc, backO_some, backX_some, aLend_k, lendO_some, consO_some, bind_nil, bind_F, bindT_t, bind_T, bindL_some, bind_L, none_nil, none_F, none_L, back_nil, back_F, back_T, back_L, runF_k, kfin_nx, kfin_ret, kfin_exc, finO_some, finX_some, outs_nil, outs_F, outs_O, start_cons, start_nil, start_nilS, gAdd_i, gSub_i, gMod_i, gNeg_i, gPow_i, gEq_i, gEq_b, gEq_s, gNe_i, gNe_b, gNe_s, gCmp_i, isNon_n, isNon_b, isNon_i, isNon_s, isNon_t, isNon_l, gIs_n, gIs_b, gIsNot_n, gIsNot_b, gLen_l, gLen_t, gLen_r, gAbs_i, gMax_i, gMin_i, gInt_i, gInt_t, gInt_f, gList_l, gList_t, gTuple_l, gTuple_t, mapO_k, gIx_l, gIx_t, gIx_r, atI_0, atI_1, atI_2, atI_3, atI_4, ixN_0, ixN_1, ixN_2, isi_non_bool, isi_non_int, isi_non_str, isi_non_tuple, isi_non_list, isi_non_dict, isi_bl_bool, isi_bl_int, isi_bl_str, isi_bl_tuple, isi_bl_list, isi_bl_dict, isi_int_bool, isi_int_int, isi_int_str, isi_int_tuple, isi_int_list, isi_int_dict, isi_str_bool, isi_str_int, isi_str_str, isi_str_tuple, isi_str_list, isi_str_dict, isi_tup_bool, isi_tup_int, isi_tup_str, isi_tup_tuple, isi_tup_list, isi_tup_dict, isi_lst_bool, isi_lst_int, isi_lst_str, isi_lst_tuple, isi_lst_list, isi_lst_dict, isi_dct_bool, isi_dct_int, isi_dct_str, isi_dct_tuple, isi_dct_list, isi_dct_dict, isi_scr_bool, isi_scr_int, isi_scr_str, isi_scr_tuple, isi_scr_list, isi_scr_dict, klst_0, ktup_0, klst_1, ktup_1, klst_2, ktup_2, klst_3, ktup_3, klst_4, ktup_4, klst_5, ktup_5, klst_6, ktup_6, klst_7, ktup_7, klst_8, ktup_8, klst_9, ktup_9, klst_10, ktup_10, klst_11, ktup_11, klst_12, ktup_12, klst_13, ktup_13, klst_14, ktup_14, klst_15, ktup_15, klst_16, ktup_16, klst_17, ktup_17, klst_18, ktup_18, klst_19, ktup_19, klst_20, ktup_20, at_nil, put_nil, at_tup, atO_k, lenIs_n, lenIs_c, isLst_l, ownL_k, dispM_eq, dsp_n, dsp_s, dsp_na, dsp_nm, dsp_sa, dsp_sm, dsp_sd, atom_t, atom_l, atom_d, atom_i, atom_b, atom_s, atom_n, joinM_a, joinM_0, ixO2_a, ixO2_0, dict0_k, kwh_t, kwh_f, atP_k, eLenO_k, lenO_k, List.map_cons, List.map_nil, ownL_k, eq_self, ne_eq, not_false_eq_true, decide_true, decide_false, Bool.not_true, Bool.not_false, if_true, if_false, reduceCtorEq, List.length_cons, List.length_nil, Int.reduceEq, Int.reduceNe, Int.reduceLT, Int.reduceLE, Int.reduceGT, Int.reduceGE, Int.reduceAdd, Int.reduceMul, Int.reduceSub, Int.reduceNeg, Int.reducePow, Int.reduceToNat, Bool.and_self, Bool.and_true, Bool.true_and, Nat.reduceAdd, Nat.reduceBEq, Nat.reduceLT, Nat.reduceEqDiff, Int.cast_ofNat_Int, Nat.zero_add, Nat.reduceLeDiff, List.set_cons_zero, List.set_cons_succ, List.getElem?_cons_zero, List.getElem?_cons_succ, List.nil_append, List.cons_append, Int.toNat_zero, Int.toNat_one, beq_self_eq_true])
set_option exponentiation.threshold 600
theorem forL_inv {t : Tgt} {body : SV} (I : Nat → DL.Env → Prop) : ∀ (ds : List D) (n : Nat) (δ : DL.Env), I n δ →
    (∀ i d δ, ds[i]? = some d → I (n + i) δ → ∃ δ1, t.set 0 d δ = some δ1 ∧ ∃ δ2, (body δ1 = .nx δ2 ∨ body δ1 = .cnt δ2) ∧ I (n + i + 1) δ2) →
    ∃ δ', forL t body ds δ = .nx δ' ∧ I (n + ds.length) δ'
  | [], n, δ, h, _ => ⟨δ, rfl, h⟩
  | d :: ds, n, δ, h, st => by
    obtain ⟨δ1, e1, δ2, e2, h2⟩ := st 0 d δ rfl h
    obtain ⟨δ', e3, h3⟩ := forL_inv (t := t) (body := body) I ds (n + 1) δ2 h2 (fun i d' δ hi hI => by
      have e : n + (i + 1) = n + 1 + i := by omega
      have := st (i + 1) d' δ (by simpa using hi)
      rw [e] at this
      exact this hI)
    refine ⟨δ', ?_, by rw [List.length_cons]; have e : n + (ds.length + 1) = n + 1 + ds.length := by omega
                       rw [e]; exact h3⟩
    rw [forL_cons, e1, forO_some]
    rcases e2 with e2 | e2 <;> rw [e2]
    · rw [kloop_nx]; exact e3
    · rw [kloop_cnt]; exact e3
theorem range_get {lo : Int} {n i : Nat} {d : D} (h : (rangeD lo n)[i]? = some d) : i < n ∧ d = .int (lo + i) := by
  unfold rangeD at h
  rw [List.getElem?_map] at h
  by_cases z : i < n
  · rw [List.getElem?_range z] at h
    exact ⟨z, by simpa using h.symm⟩
  · rw [List.getElem?_eq_none (by simpa using z)] at h
    cases h
theorem range_len {lo : Int} {n : Nat} : (rangeD lo n).length = n := by simp [rangeD]
theorem fmod_lt {a b : Int} (h : 0 < b) : 0 ≤ a.fmod b ∧ a.fmod b < b := ⟨Int.fmod_nonneg_of_pos a h, Int.fmod_lt_of_pos a h⟩
theorem pys_ints : ∀ xs : List Int, D.pys (xs.map .int) = xs.map .int
  | [] => rfl
  | x :: xs => by rw [List.map_cons, List.map_cons, D.pys, pys_ints xs]; rfl
theorem lay_ints : ∀ xs : List Int, PyData.canLayAll0 (xs.map .int) = true
  | [] => by simp [PyData.canLayAll0]
  | x :: xs => by rw [List.map_cons]; simp [PyData.canLayAll0, PyData.canLay0, lay_ints xs]
theorem dep_ints : ∀ xs : List Int, PyData.depthAll (xs.map .int) = 0
  | [] => by simp [PyData.depthAll]
  | x :: xs => by rw [List.map_cons]; simp [PyData.depthAll, PyData.depth, dep_ints xs]
theorem eqv_ints : ∀ xs ys : List Int, PyData.eqvAll (xs.map .int) (ys.map .int) = decide (xs = ys)
  | [], [] => by simp [PyData.eqvAll]
  | [], y :: ys => by simp [PyData.eqvAll]
  | x :: xs, [] => by simp [PyData.eqvAll]
  | x :: xs, y :: ys => by
    rw [List.map_cons, List.map_cons, PyData.eqvAll, eqv_ints xs ys, PyData.eqv]
    by_cases h : x = y <;> by_cases h' : xs = ys <;> simp [h, h']
theorem shaped_li (xs : List Int) : isShaped (.lst (xs.map .int)) = true := by
  unfold isShaped SeqAt.shaped
  rw [D.py, pys_ints]
  simp [PyData.canLay0, PyData.depth, lay_ints, dep_ints]
theorem gEq_li (xs ys : List Int) : gEq (.lst (xs.map .int)) (.lst (ys.map .int)) = some (0, .bl (decide (xs = ys))) := by
  show (if isShaped (.lst (xs.map .int)) && isShaped (.lst (ys.map .int)) then some (0, D.bl (PyData.eqv (D.py (.lst (xs.map .int))) (D.py (.lst (ys.map .int))))) else none) = _
  rw [shaped_li, shaped_li]
  simp only [D.py, pys_ints, PyData.eqv, eqv_ints, Bool.and_self, if_true]
theorem gNe_li (xs ys : List Int) : gNe (.lst (xs.map .int)) (.lst (ys.map .int)) = some (0, .bl (!decide (xs = ys))) := by
  show (if isShaped (.lst (xs.map .int)) && isShaped (.lst (ys.map .int)) then some (0, D.bl (!PyData.eqv (D.py (.lst (xs.map .int))) (D.py (.lst (ys.map .int))))) else none) = _
  rw [shaped_li, shaped_li]
  simp only [D.py, pys_ints, PyData.eqv, eqv_ints, Bool.and_self, if_true]
theorem atI_li {xs : List Int} {i : Int} (h : 0 ≤ i) (h' : i < xs.length) : atI (xs.map D.int) i = some (.int (xs.getD i.toNat 0)) := by
  have h2 : i.toNat < xs.length := by omega
  rw [atI_i h (by rw [List.length_map]; exact h'), List.getElem?_map, List.getElem?_eq_getElem h2]
  simp [List.getD, h2]
theorem get_some {α : Type} {xs : List α} {i : Int} (h : 0 ≤ i) (h' : i < xs.length) : ∃ x ∈ xs, atI xs i = some x := by
  have : i.toNat < xs.length := by omega
  refine ⟨xs[i.toNat], List.getElem_mem _, ?_⟩
  rw [atI_i h h', List.getElem?_eq_getElem this]
theorem compL_map {t : Tgt} {vs : List Nat} {elt : EV} (δ : DL.Env) (f : D → D) : ∀ (ds acc : List D), (∀ d ∈ ds, ∃ δ1, t.set 0 d δ = some δ1 ∧ ∃ m δ2, elt δ1 = .ok m (f d) δ2 ∧ wipeD δ2 vs = δ) →
    acc.length + ds.length ≤ sizeLine → compL t vs tYesD elt ds acc δ = some (acc ++ ds.map f, δ)
  | [], acc, _, _ => by simp [compL]
  | d :: ds, acc, h, hl => by
    obtain ⟨δ1, e1, m, δ2, e2, e3⟩ := h d List.mem_cons_self
    rw [List.length_cons] at hl
    have ih := compL_map δ f ds (acc ++ [f d]) (fun d' hd => h d' (List.mem_cons_of_mem _ hd)) (by rw [List.length_append]; simp; omega)
    unfold compL
    rw [e1]
    simp only [tYesD, e2]
    rw [if_pos (by omega), e3, ih]
    simp
theorem compL_filter {t : Tgt} {vs : List Nat} {elt : EV} {cond : DL.Env → TRes} (δ : DL.Env) (f : D → D) (p : D → Bool) : ∀ (ds acc : List D), (∀ d ∈ ds, ∃ δ1, t.set 0 d δ = some δ1 ∧ ∃ δ2, cond δ1 = .ok (p d) δ2 ∧ (p d = false → wipeD δ2 vs = δ) ∧ (p d = true → ∃ m δ3, elt δ2 = .ok m (f d) δ3 ∧ wipeD δ3 vs = δ)) →
    acc.length + ds.length ≤ sizeLine → compL t vs cond elt ds acc δ = some (acc ++ (ds.filter p).map f, δ)
  | [], acc, _, _ => by simp [compL]
  | d :: ds, acc, h, hl => by
    obtain ⟨δ1, e1, δ2, e2, e3, e4⟩ := h d List.mem_cons_self
    rw [List.length_cons] at hl
    unfold compL
    rw [e1]
    simp only [e2]
    cases hp : p d with
    | false =>
      have ih := compL_filter δ f p ds acc (fun d' hd => h d' (List.mem_cons_of_mem _ hd)) (by omega)
      simp only
      rw [e3 hp, ih, List.filter_cons_of_neg (by simp [hp])]
    | true =>
      obtain ⟨m, δ3, e5, e6⟩ := e4 hp
      have ih := compL_filter δ f p ds (acc ++ [f d]) (fun d' hd => h d' (List.mem_cons_of_mem _ hd)) (by rw [List.length_append]; simp; omega)
      simp only [e5]
      rw [if_pos (by omega), e6, ih, List.filter_cons_of_pos hp]
      simp
def IL (ps : List Nat) : List Int := ps.map fun (n : Nat) => (n : Int)
theorem IL_len (ps : List Nat) : (IL ps).length = ps.length := by simp [IL]
theorem IL_get (ps : List Nat) (i : Nat) : (IL ps).getD i 0 = ((ps.getD i 0 : Nat) : Int) := by
  unfold IL
  rw [List.getD_eq_getElem?_getD, List.getD_eq_getElem?_getD, List.getElem?_map]
  cases ps[i]? <;> rfl
theorem IL_app (ps qs : List Nat) : IL (ps ++ qs) = IL ps ++ IL qs := by simp [IL]
theorem range_IL (n : Nat) : rangeD 0 n = (IL (List.range n)).map .int := by
  unfold rangeD IL
  rw [List.map_map]
  apply List.map_congr_left
  intro i _
  simp
theorem set_IL (ps : List Nat) (n k : Nat) : ((IL ps).map D.int).set n (.int k) = (IL (ps.set n k)).map .int := by
  simp [IL, List.map_set]
def D.whole : D → Bool
  | .int _ => true
  | _ => false
theorem isWhole_k (d : D) (hx : d.isX = false := by rfl) : phi_is_whole [d] = .ok 0 (.bl d.whole) [] := by
  unfold phi_is_whole b_is_whole
  cases d <;> first | (walk_at "dl"; done) | (walk_at "dl"; rfl) | cases hx
theorem D.whole_int {d : D} (h : d.whole = true) : ∃ i, d = .int i := by
  cases d <;> first | exact ⟨_, rfl⟩ | cases h
theorem fmod_small (a b : Int) (h : b ≠ 0) : (a.fmod b).natAbs < b.natAbs := by
  by_cases z : 0 < b
  · have := fmod_lt (a := a) z; omega
  · have h1 := fmod_lt (a := -a) (b := -b) (by omega)
    rw [Int.neg_fmod_neg] at h1
    omega
theorem gcd_step (a b : Int) : Int.gcd b (a.fmod b) = Int.gcd a b := by
  rw [Int.fmod_def, Int.gcd_sub_mul_left_right, Int.gcd_comm]
theorem gcd_loop : ∀ (n : Nat) (a b : Int), b.natAbs < n → ∃ c : Int, sWh (tT (e2 gNe (eVar 1) (eC (.int 0)))) (sSeq (sPar (true, 0) (true, 1) (eVar 1) (e2 gMod (eVar 0) (eVar 1)))
  sNext) [some (0, .int a), some (0, .int b)] = .nx [some (0, .int c), some (0, .int 0)] ∧ c.natAbs = Int.gcd a b
  | 0, a, b, h => by omega
  | n + 1, a, b, h => by
    rw [sWh_k]
    by_cases z : b = 0
    · subst z
      walk_at "dl"
      exact ⟨a, rfl, by rw [Int.gcd_zero_right]⟩
    · walk_at "dl"
      rw [decide_eq_false z]
      walk_at "dl"
      rw [gMod_i z]
      walk_at "dl"
      obtain ⟨c, h1, h2⟩ := gcd_loop n b (a.fmod b) (by have := fmod_small a b z; omega)
      exact ⟨c, h1, by rw [h2, gcd_step]⟩
theorem divisor_k (a b : Int) : phi_divisor [.int a, .int b] = .ok 0 (.int (Int.gcd a b)) [] := by
  unfold phi_divisor b_divisor
  obtain ⟨c, h1, h2⟩ := gcd_loop (b.natAbs + 1) a b (by omega)
  walk_at "dl"
  rw [h1]
  walk_at "dl"
  have e : (if c < 0 then -c else c) = (Int.gcd a b : Int) := by rw [← h2]; split <;> omega
  rw [e]
def sgd (a b : Int) : Int := if b < 0 then 0 - (Int.gcd a b : Int) else (Int.gcd a b : Int)
theorem sgd_ne {a b : Int} (h : b ≠ 0) : sgd a b ≠ 0 := by
  have := Int.gcd_pos_of_ne_zero_right (a := a) h
  unfold sgd; split <;> omega
theorem gcd_le {a b : Int} (h : b ≠ 0) : Int.gcd a b ≤ b.natAbs := Nat.le_of_dvd (by omega) (by rw [← Int.natAbs_natCast (Int.gcd a b)]; exact Int.natAbs_dvd_natAbs.mpr (Int.gcd_dvd_right a b))
theorem sgd_small {a b : Int} {k : Nat} (h : b ≠ 0) (hb : b.natAbs < 2 ^ k) : (sgd a b).natAbs < 2 ^ k := by
  have := gcd_le (a := a) h
  unfold sgd; split <;> omega
theorem k_pos {b : Int} {k : Nat} (h : b ≠ 0) (hb : b.natAbs < 2 ^ k) : 0 < k := by
  cases k with
  | zero => rw [Nat.pow_zero] at hb; omega
  | succ k => omega
theorem sgd_neg (a b : Int) (h : b < 0) : (0 - a).fdiv (sgd (0 - a) (0 - b)) = a.fdiv (sgd a b) ∧ (0 - b).fdiv (sgd (0 - a) (0 - b)) = b.fdiv (sgd a b) := by
  have e1 : sgd (0 - a) (0 - b) = (Int.gcd a b : Int) := by
    unfold sgd; rw [if_neg (by omega), Int.zero_sub, Int.zero_sub, Int.neg_gcd, Int.gcd_neg]
  have e2 : sgd a b = -(Int.gcd a b : Int) := by unfold sgd; rw [if_pos h, Int.zero_sub]
  rw [e1, e2, Int.zero_sub, Int.zero_sub]
  constructor
  · rw [← Int.neg_fdiv_neg a (-(Int.gcd a b : Int)), Int.neg_neg]
  · rw [← Int.neg_fdiv_neg b (-(Int.gcd a b : Int)), Int.neg_neg]
theorem gEq_tup2 (a b c d : Int) : gEq (.tup [.int a, .int b]) (.tup [.int c, .int d]) = some (0, .bl (decide (a = c ∧ b = d))) := by
  have hs : ∀ a b : Int, isShaped (.tup [.int a, .int b]) = true := fun a b => by
    unfold isShaped SeqAt.shaped
    simp [D.py, D.pys, PyData.canLay0, PyData.canLayAll0, PyData.depth, PyData.depthAll]
  show (if isShaped (.tup [.int a, .int b]) && isShaped (.tup [.int c, .int d]) then some (0, D.bl (PyData.eqv (D.py (.tup [.int a, .int b])) (D.py (.tup [.int c, .int d])))) else none) = _
  rw [hs, hs]
  simp only [D.py, D.pys, PyData.eqv, PyData.eqvAll, Bool.and_self, if_true, Bool.and_true]
  by_cases h1 : a = c <;> by_cases h2 : b = d <;> simp [h1, h2]
theorem gNe_tup2 (a b c d : Int) : gNe (.tup [.int a, .int b]) (.tup [.int c, .int d]) = some (0, .bl (!decide (a = c ∧ b = d))) := by
  have hs : ∀ a b : Int, isShaped (.tup [.int a, .int b]) = true := fun a b => by
    unfold isShaped SeqAt.shaped
    simp [D.py, D.pys, PyData.canLay0, PyData.canLayAll0, PyData.depth, PyData.depthAll]
  show (if isShaped (.tup [.int a, .int b]) && isShaped (.tup [.int c, .int d]) then some (0, D.bl (!PyData.eqv (D.py (.tup [.int a, .int b])) (D.py (.tup [.int c, .int d])))) else none) = _
  rw [hs, hs]
  simp only [D.py, D.pys, PyData.eqv, PyData.eqvAll, Bool.and_self, if_true, Bool.and_true]
  by_cases h1 : a = c <;> by_cases h2 : b = d <;> simp [h1, h2]
def nrm (x y : Int) : D := .tup [.int (x.fdiv (sgd x y)), .int (y.fdiv (sgd x y))]
structure Sm (k : Nat) (a : Int) : Prop where
  h : a.natAbs < 2 ^ k
theorem mul_ne {a b : Int} (ha : a ≠ 0) (hb : b ≠ 0) : a * b ≠ 0 := Int.mul_ne_zero ha hb
theorem add_b {a b : Int} {k : Nat} (ha : a.natAbs < 2 ^ k) (hb : b.natAbs < 2 ^ k) : (a + b).natAbs < 2 ^ (k + 1) := by
  rw [Nat.pow_succ]; omega
theorem sub_b {a b : Int} {k : Nat} (ha : a.natAbs < 2 ^ k) (hb : b.natAbs < 2 ^ k) : (a - b).natAbs < 2 ^ (k + 1) := by
  rw [Nat.pow_succ]; omega
section
variable {a b c d : Int} {k j : Nat}
end
theorem fdiv_sand (a b : Int) (h : 0 < b) : a.fdiv b * b ≤ a ∧ a < (a.fdiv b + 1) * b := by
  have h1 := fmod_lt (a := a) h
  rw [Int.fmod_def] at h1
  rw [Int.add_mul, Int.mul_comm (a.fdiv b) b]
  omega
theorem nrm_pos {x y : Int} (h : 0 < y) {k : Nat} (hx : x.natAbs < 2 ^ k) (hy : y.natAbs < 2 ^ k) : 0 < y.fdiv (sgd x y) ∧ (x.fdiv (sgd x y)).natAbs < 2 ^ k ∧ (y.fdiv (sgd x y)).natAbs < 2 ^ k := by
  have e : sgd x y = (Int.gcd x y : Int) := by unfold sgd; rw [if_neg (by omega)]
  have g0 : (0 : Int) < (Int.gcd x y : Int) := by
    have := Int.gcd_pos_of_ne_zero_right (a := x) (b := y) (by omega)
    omega
  rw [e]
  have s1 := Int.natAbs_ediv_le_natAbs x (Int.gcd x y : Int)
  have s2 := Int.natAbs_ediv_le_natAbs y (Int.gcd x y : Int)
  rw [Int.fdiv_eq_ediv_of_nonneg x (by omega), Int.fdiv_eq_ediv_of_nonneg y (by omega)]
  refine ⟨?_, by omega, by omega⟩
  exact Int.ediv_pos_of_pos_of_dvd h (by omega) (Int.gcd_dvd_right x y)
def fr (r : Rat) : D := .tup [.int r.num, .int (r.den : Nat)]
theorem nrm_nat (x : Int) (d : Nat) (hd : d ≠ 0) : nrm x (d : Int) = fr (Rat.divInt x d) := by
  have e1 : sgd x (d : Int) = ((x.natAbs.gcd d : Nat) : Int) := by
    unfold sgd
    rw [if_neg (by omega)]
    rfl
  have e2 : Rat.divInt x (d : Int) = Rat.normalize x d hd := by
    show mkRat x d = _
    unfold mkRat
    rw [dif_neg hd]
  unfold nrm fr
  rw [e1, e2, Rat.normalize_eq, Int.fdiv_eq_ediv_of_nonneg _ (by omega), Int.fdiv_eq_ediv_of_nonneg _ (by omega)]
  rfl
theorem nrm_divInt (x y : Int) (hy : y ≠ 0) : nrm x y = fr (Rat.divInt x y) := by
  match y, hy with
  | .ofNat d, hy => exact nrm_nat x d (by intro z; subst z; exact hy rfl)
  | .negSucc d, _ =>
    obtain ⟨e1, e2⟩ := sgd_neg x (Int.negSucc d) (by omega)
    have e3 : (0 - Int.negSucc d) = ((d + 1 : Nat) : Int) := by omega
    unfold nrm
    rw [← e1, ← e2, e3]
    have := nrm_nat (0 - x) (d + 1) (by omega)
    unfold nrm at this
    rw [this]
    have e4 : Rat.divInt x (Int.negSucc d) = Rat.divInt (0 - x) ((d + 1 : Nat) : Int) := by
      show Rat.normalize (-x) d.succ (by omega) = mkRat (0 - x) (d + 1)
      unfold mkRat
      rw [dif_neg (by omega), Int.zero_sub]
    rw [e4]
structure Bd (k : Nat) (r : Rat) : Prop where
  n : r.num.natAbs < 2 ^ k
  d : r.den < 2 ^ k
theorem Bd.mono {k j : Nat} {r : Rat} (h : Bd k r) (hk : k ≤ j) : Bd j r := by
  have := Nat.pow_le_pow_right (n := 2) (by decide) hk
  have := h.n
  have := h.d
  exact ⟨by omega, by omega⟩
theorem bd_divInt {x y : Int} {k : Nat} (hy : y ≠ 0) (hx : x.natAbs < 2 ^ k) (h : y.natAbs < 2 ^ k) : Bd k (Rat.divInt x y) := by
  have key : ∀ {x y : Int}, 0 < y → x.natAbs < 2 ^ k → y.natAbs < 2 ^ k → Bd k (Rat.divInt x y) := by
    intro x y h0 h1 h2
    have e := nrm_divInt x y (by omega)
    unfold nrm fr at e
    injection e with e
    injection e with e1 e2
    injection e1 with e1
    injection e2 with e2
    injection e2 with e2
    obtain ⟨_, p2, p3⟩ := nrm_pos h0 h1 h2
    rw [e1] at p2
    rw [e2] at p3
    exact ⟨p2, by simpa using p3⟩
  by_cases z : 0 < y
  · exact key z hx h
  · have e4 : Rat.divInt x y = Rat.divInt (0 - x) (0 - y) := by
      match y, hy, z with
      | .ofNat d, hy, z => exact absurd (show (0 : Int) < (d : Int) by have : (d : Int) ≠ 0 := hy; omega) z
      | .negSucc d, _, _ =>
        have e3 : (0 - Int.negSucc d) = ((d + 1 : Nat) : Int) := by omega
        rw [e3]
        show Rat.normalize (-x) d.succ (by omega) = mkRat (0 - x) (d + 1)
        unfold mkRat
        rw [dif_neg (by omega), Int.zero_sub]
    rw [e4]
    exact key (by omega) (by omega) (by omega)
theorem den_ne (r : Rat) : (r.den : Int) ≠ 0 := by have := r.den_nz; omega
theorem fr_eq (r s : Rat) : gEq (fr r) (fr s) = some (0, .bl (decide (r = s))) := by
  unfold fr
  rw [gEq_tup2]
  congr 3
  by_cases h : r = s
  · subst h; simp
  · rw [decide_eq_false h, decide_eq_false]
    rintro ⟨h1, h2⟩
    exact h (Rat.ext h1 (by exact_mod_cast h2))
theorem fr_ne (r s : Rat) : gNe (fr r) (fr s) = some (0, .bl (!decide (r = s))) := by
  unfold fr
  rw [gNe_tup2]
  congr 4
  by_cases h : r = s
  · subst h; simp
  · rw [decide_eq_false h, decide_eq_false]
    rintro ⟨h1, h2⟩
    exact h (Rat.ext h1 (by exact_mod_cast h2))
section
variable {r s : Rat} {k j : Nat}
theorem bd_nat {k n : Nat} (h : n < 2 ^ k) : ((n : Nat) : Int).natAbs < 2 ^ k := by simpa using h
theorem num_ne (h : s ≠ 0) : s.num ≠ 0 := fun z => h (Rat.num_eq_zero.mp z)
end
def Sd (b : Int) : Prop := 0 ≤ b ∧ b < 2 ^ 31
theorem cellW_k (ns : List Int) (k : Nat) : ∃ c, phi__law_cell [.scr ns, .int k] = .ok 0 (.int c) [] := by
  unfold phi__law_cell b__law_cell
  walk_at "dl"
  by_cases h : (k : Int) < ns.length
  · rw [decide_eq_true h]
    walk_at "dl"
    have hk : k < ns.length := by omega
    rw [atI_n hk, List.getElem?_eq_getElem hk]
    refine ⟨ns[k], ?_⟩
    simp only [Option.map_some]
    walk_at "dl"
  · rw [decide_eq_false h]
    walk_at "dl"
    exact ⟨_, rfl⟩
theorem source_k (c : Int) (k : Nat) (hk : k < 2 ^ 30) : ∃ a b : Int, phi__law_source [.int c, .int k] = .ok 1 (.lst [.int a, .int b]) [] ∧ Sd b := by
  unfold phi__law_source b__law_source
  walk_at "dl"
  generalize (if c < 0 then -c else c) = n
  have hm := fmod_lt (a := n) (b := 1000003) (by decide)
  rw [gMul_b 64 64 (by decide) (by omega) (by decide) (by decide) (by decide)]
  walk_at "dl"
  rw [gMul_b 64 64 (by omega) (by decide) (by decide) (by decide) (by decide)]
  walk_at "dl"
  rw [gPow_i (by decide)]
  walk_at "dl"
  have fin : ∀ x : Int, Sd (x.fmod 2147483647) := fun x => by have := fmod_lt (a := x) (b := 2147483647) (by decide); unfold Sd; omega
  generalize hb : decide (n < 1000000000000000000) = bb
  cases bb <;> walk_at "dl" <;> exact ⟨_, _, rfl, fin _⟩
theorem sd_mod (x : Int) : Sd (x.fmod 2147483647) := by have := fmod_lt (a := x) (b := 2147483647) (by decide); unfold Sd; omega
theorem draw_k (a b n : Int) (hb : Sd b) (hn : 0 < n) (hn' : n < 2 ^ 512) : ∃ r a' b' : Int, phi__law_draw [.lst [.int a, .int b], .int n] = .ok 0 (.int r) [.lst [.int a', .int b']] ∧ 0 ≤ r ∧ r < n ∧ Sd b' := by
  unfold phi__law_draw b__law_draw
  have n0 : n ≠ 0 := by omega
  have ns : n.natAbs < 2 ^ 512 := by omega
  have hb1 := hb.1
  have hb2 := hb.2
  walk_at "dl"
  by_cases h : 0 < a
  · rw [decide_eq_true h]
    walk_at "dl"
    rw [gMod_i n0]
    walk_at "dl"
    rw [gDiv_b 512 ns (by decide) n0 (by decide)]
    walk_at "dl"
    have := fmod_lt (a := a) hn
    exact ⟨_, _, _, rfl, this.1, this.2, hb⟩
  · rw [decide_eq_false h]
    walk_at "dl"
    rw [gMul_b 64 64 (by omega) (by decide) (by decide) (by decide) (by decide)]
    walk_at "dl"
    have h1 := sd_mod (b * 48271 + 11)
    generalize (b * 48271 + 11).fmod 2147483647 = b1 at h1
    have h11 := h1.1
    have h12 := h1.2
    rw [gMul_b 64 64 (by omega) (by omega) (by decide) (by decide) (by decide)]
    walk_at "dl"
    have h3 := fmod_lt (a := b1 * b1) (b := 2147483629) (by decide)
    generalize (b1 * b1).fmod 2147483629 = f1 at h3
    rw [gDiv_b 64 (by decide) (by decide) (by decide) (by decide)]
    walk_at "dl"
    rw [gPow_i (by decide)]
    walk_at "dl"
    by_cases z : (10000000 : Int) < n
    · rw [decide_eq_true z]
      walk_at "dl"
      rw [gMul_b 64 64 (by omega) (by decide) (by decide) (by decide) (by decide)]
      walk_at "dl"
      have h4 := sd_mod (b1 * 39373 + 17)
      generalize (b1 * 39373 + 17).fmod 2147483647 = b2 at h4
      have h41 := h4.1
      have h42 := h4.2
      have h5 : 0 ≤ f1.fdiv 64 ∧ f1.fdiv 64 < 2 ^ 31 := by rw [Int.fdiv_eq_ediv_of_nonneg _ (by decide)]; omega
      generalize f1.fdiv 64 = g1 at h5
      rw [gMul_b 64 64 (by omega) (by decide) (by decide) (by decide) (by decide)]
      walk_at "dl"
      rw [gMul_b 64 64 (by omega) (by omega) (by decide) (by decide) (by decide)]
      walk_at "dl"
      rw [gDiv_b 64 (by decide) (by decide) (by decide) (by decide)]
      walk_at "dl"
      rw [gMod_i n0]
      walk_at "dl"
      have := fmod_lt (a := g1 * 33554393 + ((b2 * b2).fmod 2147483629).fdiv 64) hn
      exact ⟨_, _, _, rfl, this.1, this.2, h4⟩
    · rw [decide_eq_false z]
      walk_at "dl"
      rw [gMod_i n0]
      walk_at "dl"
      have := fmod_lt (a := f1.fdiv 64) hn
      exact ⟨_, _, _, rfl, this.1, this.2, h1⟩
structure Tr (ps : List Nat) (rs : List Int) : Prop where
  len : ps.length = rs.length
  pos : 1 ≤ ps.length
  le : ps.length ≤ 23
  par : ∀ i, i < ps.length → ps.getD i 0 ≤ i
  room : ∀ r ∈ rs, 1 ≤ r ∧ r ≤ 1000000
theorem isWholeI_k (i : Int) : phi_is_whole [.int i] = .ok 0 (.bl true) [] := by
  unfold phi_is_whole b_is_whole
  walk_at "dl"
theorem isParent_k {i p : Int} (h : 0 ≤ i) (h' : i < p) : phi_is_parent [.int i, .int p] = .ok 0 (.bl true) [] := by
  unfold phi_is_parent b_is_parent
  walk_at "dl"
  rw [isWholeI_k]
  walk_at "dl"
  rw [decide_eq_true h]
  walk_at "dl"
  rw [decide_eq_true h']
  all_goals walk_at "dl"
theorem isRoom_k {i : Int} (h : 1 ≤ i) (h' : i ≤ 1000000) : phi_is_room [.int i] = .ok 0 (.bl true) [] := by
  unfold phi_is_room b_is_room
  walk_at "dl"
  rw [isWholeI_k]
  walk_at "dl"
  rw [decide_eq_true h]
  walk_at "dl"
  rw [decide_eq_true h']
  all_goals walk_at "dl"
theorem twoLists_k {ps : List Nat} {rs : List Int} (h : Tr ps rs) : phi_are_two_lists [(D.tup [D.lst ((IL ps).map D.int), D.lst (rs.map D.int)])] = .ok 0 (.bl true) [] := by
  unfold phi_are_two_lists b_are_two_lists
  walk_at "dl"
  have e1 : ((List.length ((IL ps).map D.int) : Nat) : Int) = ps.length := by rw [List.length_map, IL_len]
  have e2 : ((List.length (rs.map D.int) : Nat) : Int) = ps.length := by rw [List.length_map, h.len]
  rw [e1, e2]
  walk_at "dl"
  rw [e1]
  rw [decide_eq_true (show (1 : Int) ≤ ps.length by have := h.pos; omega)]
  walk_at "dl"
  rw [decide_eq_true (show (ps.length : Int) ≤ 23 by have := h.le; omega)]
  all_goals walk_at "dl"
theorem look_k {ps : List Nat} {rs : List Int} (h : Tr ps rs) : phi_look_at_tree [(D.tup [D.lst ((IL ps).map D.int), D.lst (rs.map D.int)])] = .ok 0 .non [] := by
  unfold phi_look_at_tree b_look_at_tree
  walk_at "dl"
  rw [twoLists_k h]
  walk_at "dl"
  obtain ⟨δ', e1, a, b, c, rfl⟩ := forL_inv (t := Tgt.tp [(true, 1), (true, 2)]) (body := (sSeq (sIf (tNotD (tT (eCall [0, 0] [none, none] phi_is_parent (aCons (eVar 2) (aCons (e2 gAdd (eVar 1) (eC (.int 1))) aNil))))) (sSeq (sRaiseN "NoTree" ["part", "number"] (aCons (eC (.str "parents")) (aCons (eVar 1) aNil)))
  sNext) sNext)
  sNext)) (fun _ δ => ∃ a b c, δ = [some (0, (D.tup [D.lst ((IL ps).map D.int), D.lst (rs.map D.int)])), a, b, c]) (enumD 0 ((IL ps).map .int)) 0 [some (0, (D.tup [D.lst ((IL ps).map D.int), D.lst (rs.map D.int)])), none, none, none] ⟨_, _, _, rfl⟩ (by
    rintro i d _ hd ⟨a, b, c, rfl⟩
    rw [enumD_get, List.getElem?_map] at hd
    cases hi : (IL ps)[i]? with
    | none => rw [hi] at hd; cases hd
    | some x =>
      rw [hi] at hd
      have hd : d = .tup [.int ((0 + i : Nat) : Int), .int x] := by simpa using hd.symm
      have hlt : i < ps.length := by
        have := List.getElem?_eq_some_iff.mp hi
        obtain ⟨q, _⟩ := this
        simpa [IL_len] using q
      have hx : x = ((ps.getD i 0 : Nat) : Int) := by rw [← IL_get, List.getD_eq_getElem?_getD, hi]; rfl
      have := h.par i hlt
      subst hd
      refine ⟨[some (0, (D.tup [D.lst ((IL ps).map D.int), D.lst (rs.map D.int)])), some (0, .int ((0 + i : Nat) : Int)), some (0, .int x), c], by walk_at "dl", [some (0, (D.tup [D.lst ((IL ps).map D.int), D.lst (rs.map D.int)])), some (0, .int ((0 + i : Nat) : Int)), some (0, .int x), c], .inl ?_, _, _, _, rfl⟩
      walk_at "dl"
      rw [isParent_k (by omega) (by omega)]
      walk_at "dl")
  rw [e1]
  walk_at "dl"
  obtain ⟨δ', e1, a, b, c, rfl⟩ := forL_inv (t := Tgt.tp [(true, 1), (true, 3)]) (body := (sSeq (sIf (tNotD (tT (eCall [0] [none] phi_is_room (aCons (eVar 3) aNil)))) (sSeq (sRaiseN "NoTree" ["part", "number"] (aCons (eC (.str "rooms")) (aCons (eVar 1) aNil)))
  sNext) sNext)
  sNext)) (fun _ δ => ∃ a b c, δ = [some (0, (D.tup [D.lst ((IL ps).map D.int), D.lst (rs.map D.int)])), a, b, c]) (enumD 0 (rs.map .int)) 0 [some (0, (D.tup [D.lst ((IL ps).map D.int), D.lst (rs.map D.int)])), a, b, c] ⟨_, _, _, rfl⟩ (by
    rintro i d _ hd ⟨a, b, c, rfl⟩
    rw [enumD_get, List.getElem?_map] at hd
    cases hi : rs[i]? with
    | none => rw [hi] at hd; cases hd
    | some x =>
      rw [hi] at hd
      have hd : d = .tup [.int ((0 + i : Nat) : Int), .int x] := by simpa using hd.symm
      have := h.room x (List.mem_of_getElem? hi)
      subst hd
      refine ⟨[some (0, (D.tup [D.lst ((IL ps).map D.int), D.lst (rs.map D.int)])), some (0, .int ((0 + i : Nat) : Int)), b, some (0, .int x)], by walk_at "dl", [some (0, (D.tup [D.lst ((IL ps).map D.int), D.lst (rs.map D.int)])), some (0, .int ((0 + i : Nat) : Int)), b, some (0, .int x)], .inl ?_, _, _, _, rfl⟩
      walk_at "dl"
      rw [isRoom_k (by omega) (by omega)]
      walk_at "dl")
  rw [e1]
  walk_at "dl"
theorem compL_ex {α : Type} {t : Tgt} {vs : List Nat} {elt : EV} (δ : DL.Env) (g : α → D) (P : α → Prop) : ∀ (ds acc : List D), (∀ d ∈ ds, ∃ δ1, t.set 0 d δ = some δ1 ∧ ∃ m a δ2, elt δ1 = .ok m (g a) δ2 ∧ P a ∧ wipeD δ2 vs = δ) →
    acc.length + ds.length ≤ sizeLine → ∃ xs : List α, compL t vs tYesD elt ds acc δ = some (acc ++ xs.map g, δ) ∧ xs.length = ds.length ∧ ∀ a ∈ xs, P a
  | [], acc, _, _ => ⟨[], by simp [compL], rfl, by simp⟩
  | d :: ds, acc, h, hl => by
    obtain ⟨δ1, e1, m, a, δ2, e2, pa, e3⟩ := h d List.mem_cons_self
    rw [List.length_cons] at hl
    obtain ⟨xs, i1, i2, i3⟩ := compL_ex δ g P ds (acc ++ [g a]) (fun d' hd => h d' (List.mem_cons_of_mem _ hd)) (by rw [List.length_append]; simp; omega)
    refine ⟨a :: xs, ?_, by simp [i2], ?_⟩
    · unfold compL
      rw [e1]
      simp only [tYesD, e2]
      rw [if_pos (by omega), e3, i1]
      simp
    · intro b hb
      rcases List.mem_cons.mp hb with rfl | hb
      · exact pa
      · exact i3 b hb
theorem compL_exI {α : Type} {t : Tgt} {vs : List Nat} {elt : EV} (I : DL.Env → Prop) (g : α → D) (P : α → Prop) : ∀ (ds acc : List D) (δ : DL.Env), I δ → (∀ d ∈ ds, ∀ δ, I δ → ∃ δ1, t.set 0 d δ = some δ1 ∧ ∃ m a δ2, elt δ1 = .ok m (g a) δ2 ∧ P a ∧ I (wipeD δ2 vs)) →
    acc.length + ds.length ≤ sizeLine → ∃ (xs : List α) (δ' : DL.Env), compL t vs tYesD elt ds acc δ = some (acc ++ xs.map g, δ') ∧ I δ' ∧ xs.length = ds.length ∧ ∀ a ∈ xs, P a
  | [], acc, δ, h0, _, _ => ⟨[], δ, by simp [compL], h0, rfl, by simp⟩
  | d :: ds, acc, δ, h0, h, hl => by
    obtain ⟨δ1, e1, m, a, δ2, e2, pa, e3⟩ := h d List.mem_cons_self δ h0
    rw [List.length_cons] at hl
    obtain ⟨xs, δ', i1, i0, i2, i3⟩ := compL_exI I g P ds (acc ++ [g a]) _ e3 (fun d' hd => h d' (List.mem_cons_of_mem _ hd)) (by rw [List.length_append]; simp; omega)
    refine ⟨a :: xs, δ', ?_, i0, by simp [i2], ?_⟩
    · unfold compL
      rw [e1]
      simp only [tYesD, e2]
      rw [if_pos (by omega), i1]
      simp
    · intro b hb
      rcases List.mem_cons.mp hb with rfl | hb
      · exact pa
      · exact i3 b hb
theorem treeW_k (a b : Int) (m : Nat) (hb : Sd b) (hm : 1 ≤ m ∧ m ≤ 23) :
    ∃ ps rs, ∃ a' b' : Int, phi__law_tree [.lst [.int a, .int b], .int m] = .ok 1 (D.tup [D.lst ((IL ps).map D.int), D.lst (rs.map D.int)]) [.lst [.int a', .int b']] ∧ Tr ps rs ∧ Sd b' ∧ ps.length ≤ m := by
  unfold phi__law_tree b__law_tree
  walk_at "dl"
  obtain ⟨n, a1, b1, q1, n0, n1, hb1⟩ := draw_k a b (m : Int) hb (by omega) (by omega)
  rw [q1]
  walk_at "dl"
  obtain ⟨w, a2, b2, q2, w0, w1, hb2⟩ := draw_k a1 b1 4 hb1 (by decide) (by decide)
  rw [q2]
  walk_at "dl"
  rw [kr1_ok (inW_i (by omega) (by omega))]
  walk_at "dl"
  obtain ⟨δ', q4, ps, a4, b4, x, rfl, l1, par, hb4⟩ := forL_inv (t := Tgt.nm (true, 5)) (body := (sSeq (sApp 4 [] (e2 gIx (eLst (aCons (eCall [1, 0] [some 0, none] phi__law_draw (aLend 0 (aCons (e2 gAdd (eVar 5) (eC (.int 1))) aNil))) (aCons (eVar 5) (aCons (eC (.int 0)) (aCons (e2 gDiv (eVar 5) (eC (.int 2))) aNil))))) (eVar 3)))
  sNext))
    (fun i δ => ∃ ps a b x, δ = [some (1, .lst [.int a, .int b]), some (0, .int m), some (0, .int (1 + n)), some (0, .int w), some (1, .lst ((IL ps).map .int)), x, none] ∧
      ps.length = i ∧ (∀ j, j < ps.length → ps.getD j 0 ≤ j) ∧ Sd b)
    (rangeD 0 (1 + n).toNat) 0 [some (1, .lst [.int a2, .int b2]), some (0, .int m), some (0, .int (1 + n)), some (0, .int w), some (1, .lst []), none, none]
    ⟨[], a2, b2, none, rfl, rfl, fun j hj => absurd hj (Nat.not_lt_zero _), hb2⟩ (by
      rintro i d _ hd ⟨ps, a, b, x, rfl, l1, par, hb⟩
      obtain ⟨hi, rfl⟩ := range_get hd
      have hi2 : (i : Int) < 23 := by omega
      refine ⟨[some (1, .lst [.int a, .int b]), some (0, .int m), some (0, .int (1 + n)), some (0, .int w), some (1, .lst ((IL ps).map .int)), some (0, .int (0 + i)), none], by walk_at "dl", ?_⟩
      obtain ⟨u, a5, b5, q5, u0, u1, hb5⟩ := draw_k a b (i + 1) hb (by omega) (by omega)
      have hp : ∃ p : Nat, p ≤ i ∧ atI [D.int u, .int i, .int 0, .int ((i : Int).fdiv 2)] w = some (.int p) := by
        obtain ⟨y, hy, q7⟩ := get_some (xs := [D.int u, .int i, .int 0, .int ((i : Int).fdiv 2)]) w0 (by simpa using w1)
        rw [q7]
        have hd2 : (i : Int).fdiv 2 = (i : Int) / 2 := Int.fdiv_eq_ediv_of_nonneg _ (by decide)
        simp only [List.mem_cons, List.not_mem_nil, or_false] at hy
        rcases hy with rfl | rfl | rfl | rfl
        · exact ⟨u.toNat, by omega, by rw [Int.toNat_of_nonneg u0]⟩
        · exact ⟨i, by omega, rfl⟩
        · exact ⟨0, by omega, rfl⟩
        · refine ⟨((i : Int).fdiv 2).toNat, by omega, ?_⟩
          rw [Int.toNat_of_nonneg (by omega)]
      obtain ⟨p, hpi, q7⟩ := hp
      refine ⟨[some (1, .lst [.int a5, .int b5]), some (0, .int m), some (0, .int (1 + n)), some (0, .int w), some (1, .lst ((IL (ps ++ [p])).map .int)), some (0, .int (0 + i)), none], .inl ?_, ps ++ [p], a5, b5, _, rfl, by simp; omega, ?_, hb5⟩
      · walk_at "dl"
        rw [Int.zero_add, q5]
        walk_at "dl"
        rw [gDiv_b 8 (by decide) (by decide) (by decide) (by decide)]
        walk_at "dl"
        rw [q7]
        walk_at "dl"
        rw [appO1_k (by rw [List.length_map, IL_len]; unfold sizeLine; omega) (joinM_a rfl)]
        walk_at "dl"
        simp only [IL, List.map_append, List.map_cons, List.map_nil]
      · intro j hj
        rw [List.length_append, List.length_cons, List.length_nil] at hj
        by_cases z : j < ps.length
        · rw [List.getD_eq_getElem?_getD, List.getElem?_append_left z, ← List.getD_eq_getElem?_getD]
          exact par j z
        · have : j = ps.length := by omega
          subst this
          simp only [List.getD_eq_getElem?_getD, List.getElem?_concat_length, Option.getD_some]
          omega)
  rw [q4]
  walk_at "dl"
  have hlen : ps.length = (1 + n).toNat := by rw [l1, range_len]; omega
  rw [gPow_i (by decide)]
  walk_at "dl"
  obtain ⟨z, a5, b5, q5, z0, z1, hb5⟩ := draw_k a4 b4 4 hb4 (by decide) (by decide)
  rw [q5]
  walk_at "dl"
  obtain ⟨sz, hsz, q6⟩ := get_some (xs := [D.int 1, .int 3, .int 60, .int 1000000]) z0 (by simpa using z1)
  rw [q6]
  have hsz' : ∃ s : Int, sz = .int s ∧ 0 < s ∧ s ≤ 1000000 := by
    simp only [List.mem_cons, List.not_mem_nil, or_false] at hsz
    rcases hsz with rfl | rfl | rfl | rfl <;> exact ⟨_, rfl, by decide, by decide⟩
  obtain ⟨s, rfl, s0, s1⟩ := hsz'
  walk_at "dl"
  rw [kr1_ok (inW_i (by omega) (by omega))]
  walk_at "dl"
  obtain ⟨rs, δ', c1, ⟨a6, b6, rfl, hb6⟩, c2, c3⟩ := compL_exI (t := Tgt.nm (true, 5)) (vs := [5]) (elt := (e2 gAdd (eC (D.int 1)) (eCall [1, 0] [some 0, none] phi__law_draw (aLend 0 (aCons (eVar 6) aNil)))))
    (fun δ => ∃ a b, δ = [some (1, .lst [.int a, .int b]), some (0, .int m), some (0, .int (1 + n)), some (0, .int w), none, none, some (0, .int s)] ∧ Sd b) D.int (fun r => 1 ≤ r ∧ r ≤ 1000000) (rangeD 0 (1 + n).toNat) [] _ ⟨a5, b5, rfl, hb5⟩ (by
      rintro d hd δ ⟨a, b, rfl, hb⟩
      obtain ⟨r, a7, b7, q7, r0, r1, hb7⟩ := draw_k a b s hb s0 (by omega)
      refine ⟨[some (1, .lst [.int a, .int b]), some (0, .int m), some (0, .int (1 + n)), some (0, .int w), none, some (0, d), some (0, .int s)], by walk_at "dl", 0, 1 + r, [some (1, .lst [.int a7, .int b7]), some (0, .int m), some (0, .int (1 + n)), some (0, .int w), none, some (0, d), some (0, .int s)], ?_, by omega, a7, b7, by walk_at "dl", hb7⟩
      walk_at "dl"
      rw [q7]
      walk_at "dl") (by rw [range_len]; unfold sizeLine; simp; omega)
  rw [c1]
  walk_at "dl"
  rw [range_len] at c2
  exact ⟨ps, rs, a6, b6, rfl, ⟨by omega, by omega, by omega, par, c3⟩, hb6, by omega⟩
def ups (ps : List Nat) (k : Nat) : List Nat := if h : k = 0 then [] else (min (ps.getD (k - 1) 0) (k - 1)) :: ups ps (min (ps.getD (k - 1) 0) (k - 1))
termination_by k
decreasing_by omega
theorem ups_0 (ps : List Nat) : ups ps 0 = [] := by rw [ups]; simp
theorem ups_s {ps : List Nat} {k : Nat} (h : ps.getD k 0 ≤ k) : ups ps (k + 1) = ps.getD k 0 :: ups ps (ps.getD k 0) := by
  rw [ups]
  have e : min (ps.getD (k + 1 - 1) 0) (k + 1 - 1) = ps.getD k 0 := by
    rw [Nat.add_sub_cancel]; omega
  rw [dif_neg (by omega), e]
theorem ups_lt {ps : List Nat} (k : Nat) : ∀ x ∈ ups ps k, x < k := by
  induction k using Nat.strongRecOn with
  | _ k ih =>
    intro x hx
    rw [ups] at hx
    by_cases h : k = 0
    · rw [dif_pos h] at hx; cases hx
    · rw [dif_neg h] at hx
      rcases List.mem_cons.mp hx with e | hx
      · omega
      · have := ih _ (by omega) x hx
        omega
theorem ups_len {ps : List Nat} (k : Nat) : (ups ps k).length ≤ k := by
  induction k using Nat.strongRecOn with
  | _ k ih =>
    rw [ups]
    by_cases h : k = 0
    · rw [dif_pos h]; simp
    · rw [dif_neg h, List.length_cons]
      have := ih (min (ps.getD (k - 1) 0) (k - 1)) (by omega)
      omega
theorem gIn_li (i : Int) (xs : List Int) : gIn (.int i) (.lst (xs.map .int)) = some (0, .bl (decide (i ∈ xs))) := by
  have ha : (xs.map D.int).all D.atom = true := by rw [List.all_map]; simp [D.atom, Function.comp_def]
  show (if (D.int i).atom && (xs.map D.int).all D.atom then some (0, D.bl ((xs.map D.int).any fun e => eqA e (.int i))) else none) = _
  simp only [ha, D.atom, Bool.and_self, if_true]
  congr 2
  rw [List.any_map]
  simp only [Function.comp_def, eqA]
  congr 1
  rw [Bool.eq_iff_iff, List.any_eq_true, decide_eq_true_eq]
  constructor
  · rintro ⟨x, hx, e⟩
    have : x = i := by simpa using e
    rw [← this]; exact hx
  · intro hx
    exact ⟨i, hx, by simp⟩
theorem gNotIn_li (i : Int) (xs : List Int) : gNotIn (.int i) (.lst (xs.map .int)) = some (0, .bl (!decide (i ∈ xs))) := by
  have ha : (xs.map D.int).all D.atom = true := by rw [List.all_map]; simp [D.atom, Function.comp_def]
  have := gIn_li i xs
  have e1 : gIn (.int i) (.lst (xs.map .int)) = some (0, D.bl ((xs.map D.int).any fun e => eqA e (.int i))) := by
    show (if (D.int i).atom && (xs.map D.int).all D.atom then some (0, D.bl ((xs.map D.int).any fun e => eqA e (.int i))) else none) = _
    simp only [ha, D.atom, Bool.and_self, if_true]
  rw [e1] at this
  have e2 : ((xs.map D.int).any fun e => eqA e (.int i)) = decide (i ∈ xs) := by simpa using this
  show (if (D.int i).atom && (xs.map D.int).all D.atom then some (0, D.bl (!(xs.map D.int).any fun e => eqA e (.int i))) else none) = _
  simp only [ha, D.atom, Bool.and_self, if_true, e2]
theorem mem_IL (n : Nat) (ps : List Nat) : ((n : Int) ∈ IL ps) ↔ n ∈ ps := by
  unfold IL
  rw [List.mem_map]
  constructor
  · rintro ⟨m, hm, e⟩
    have : m = n := by omega
    rw [← this]; exact hm
  · intro h; exact ⟨n, h, rfl⟩
def pa (ps : List Nat) (k : Nat) : Nat := min (ps.getD (k - 1) 0) (k - 1)
def path (ps : List Nat) (k : Nat) : List Nat := k :: ups ps k
theorem ups_pa {ps : List Nat} {k : Nat} (h : k ≠ 0) : ups ps k = path ps (pa ps k) := by
  rw [ups, dif_neg h]; rfl
theorem path_pa {ps : List Nat} {k : Nat} (h : k ≠ 0) : path ps k = k :: path ps (pa ps k) := by
  unfold path
  rw [ups_pa h]; rfl
theorem path_le {ps : List Nat} {k x : Nat} (h : x ∈ path ps k) : x ≤ k := by
  rcases List.mem_cons.mp h with e | e
  · omega
  · have := ups_lt k x e; omega
theorem path_len {ps : List Nat} (k : Nat) : (path ps k).length ≤ k + 1 := by
  unfold path; rw [List.length_cons]; have := ups_len (ps := ps) k; omega
theorem path_desc {ps : List Nat} (k : Nat) : (path ps k).Pairwise (fun a b => b < a) := by
  induction k using Nat.strongRecOn with
  | _ k ih =>
    by_cases h : k = 0
    · subst h; unfold path; rw [ups_0]; simp
    · rw [path_pa h]
      refine List.Pairwise.cons (fun x hx => ?_) (ih _ (by unfold pa; omega))
      have := path_le hx
      unfold pa at this; omega
def wk (ps : List Nat) (a b : Nat) : List Nat × Nat :=
  if h : a = b then ([], a) else (max a b :: (wk ps (pa ps (max a b)) (min a b)).1, (wk ps (pa ps (max a b)) (min a b)).2)
termination_by a + b
decreasing_by all_goals (unfold pa; omega)
theorem wk_eq (ps : List Nat) (a : Nat) : wk ps a a = ([], a) := by rw [wk, dif_pos rfl]
theorem wk_ne (ps : List Nat) {a b : Nat} (h : a ≠ b) : wk ps a b = (max a b :: (wk ps (pa ps (max a b)) (min a b)).1, (wk ps (pa ps (max a b)) (min a b)).2) := by
  rw [wk, dif_neg h]
theorem wk_spec {ps : List Nat} : ∀ (n a b : Nat), a + b ≤ n →
    (wk ps a b).2 ∈ path ps a ∧ (wk ps a b).2 ∈ path ps b ∧ (∀ x, x ∈ path ps a → x ∈ path ps b → x ∈ path ps (wk ps a b).2) ∧
    (wk ps a b).1.Perm ((path ps a ++ path ps b).filter fun x => !decide (x ∈ path ps (wk ps a b).2)) := by
  intro n
  induction n with
  | zero =>
    intro a b h
    obtain rfl : a = 0 := by omega
    obtain rfl : b = 0 := by omega
    rw [wk_eq]
    refine ⟨List.mem_cons_self, List.mem_cons_self, fun x h _ => h, ?_⟩
    rw [List.filter_eq_nil_iff.mpr]
    · intro x hx
      rcases List.mem_append.mp hx with hx | hx <;> simp [hx]
  | succ n ih =>
    intro a b h
    by_cases e : a = b
    · subst e
      rw [wk_eq]
      refine ⟨List.mem_cons_self, List.mem_cons_self, fun x h _ => h, ?_⟩
      rw [List.filter_eq_nil_iff.mpr]
      · intro x hx
        rcases List.mem_append.mp hx with hx | hx <;> simp [hx]
    · rw [wk_ne ps e]
      by_cases lt : b < a
      · have e1 : max a b = a := by omega
        have e2 : min a b = b := by omega
        rw [e1, e2]
        obtain ⟨i1, i2, i3, i4⟩ := ih (pa ps a) b (by unfold pa; omega)
        generalize wk ps (pa ps a) b = w at *
        have hm := path_le i2
        have pa' : path ps a = a :: path ps (pa ps a) := path_pa (by omega)
        refine ⟨by rw [pa']; exact List.mem_cons_of_mem _ i1, i2, fun x hx hy => ?_, ?_⟩
        · rw [pa'] at hx
          rcases List.mem_cons.mp hx with q | q
          · have := path_le hy; omega
          · exact i3 x q hy
        · rw [pa', List.cons_append, List.filter_cons_of_pos (by
            simp only [Bool.not_eq_true', decide_eq_false_iff_not]
            intro q; have := path_le q; omega)]
          exact i4.cons a
      · have e1 : max a b = b := by omega
        have e2 : min a b = a := by omega
        rw [e1, e2]
        obtain ⟨i1, i2, i3, i4⟩ := ih (pa ps b) a (by unfold pa; omega)
        generalize wk ps (pa ps b) a = w at *
        have hm := path_le i2
        have pb' : path ps b = b :: path ps (pa ps b) := path_pa (by omega)
        refine ⟨i2, by rw [pb']; exact List.mem_cons_of_mem _ i1, fun x hx hy => ?_, ?_⟩
        · rw [pb'] at hy
          rcases List.mem_cons.mp hy with q | q
          · have := path_le hx; omega
          · exact i3 x q hx
        · have nb : (!decide (b ∈ path ps w.2)) = true := by
            simp only [Bool.not_eq_true', decide_eq_false_iff_not]
            intro q; have := path_le q; omega
          have i5 := i4.cons b
          refine i5.trans ?_
          rw [← List.filter_cons_of_pos (p := fun x => !decide (x ∈ path ps w.2)) nb, ← List.cons_append, ← pb']
          exact List.Perm.filter _ List.perm_append_comm
theorem wk_first {ps : List Nat} (a b : Nat) : ∃ r, (path ps a).filter (fun x => decide (x ∈ path ps b)) = (wk ps a b).2 :: r := by
  obtain ⟨h1, h2, h3, _⟩ := wk_spec (ps := ps) (a + b) a b (Nat.le_refl _)
  have hd : ((path ps a).filter (fun x => decide (x ∈ path ps b))).Pairwise (fun a b => b < a) := List.Pairwise.filter _ (path_desc a)
  have hin : (wk ps a b).2 ∈ (path ps a).filter (fun x => decide (x ∈ path ps b)) := List.mem_filter.mpr ⟨h1, by simpa using h2⟩
  have hall : ∀ x ∈ (path ps a).filter (fun x => decide (x ∈ path ps b)), x ≤ (wk ps a b).2 := fun x hx => by
    rw [List.mem_filter] at hx
    exact path_le (h3 x hx.1 (by simpa using hx.2))
  cases hl : (path ps a).filter (fun x => decide (x ∈ path ps b)) with
  | nil => rw [hl] at hin; cases hin
  | cons y r =>
    rw [hl] at hin hall hd
    have := hall y List.mem_cons_self
    rcases List.mem_cons.mp hin with e | e
    · exact ⟨r, by rw [e]⟩
    · have := (List.pairwise_cons.mp hd).1 _ e
      omega
theorem wk_le {ps : List Nat} (n a b : Nat) (ha : a ≤ n) (hb : b ≤ n) : (wk ps a b).2 ≤ n := by
  have := (wk_spec (ps := ps) (a + b) a b (Nat.le_refl _)).1
  have := path_le this
  omega
theorem wk_mem {ps : List Nat} (a b x : Nat) (h : x ∈ (wk ps a b).1) : 1 ≤ x ∧ x ≤ max a b := by
  obtain ⟨h1, h2, h3, h4⟩ := wk_spec (ps := ps) (a + b) a b (Nat.le_refl _)
  have := h4.mem_iff.mp h
  rw [List.mem_filter] at this
  obtain ⟨m1, m2⟩ := this
  have m2 : x ∉ path ps (wk ps a b).2 := by simpa using m2
  have m0 : ∀ k, 0 ∈ path ps k := fun k => by
    induction k using Nat.strongRecOn with
    | _ k ih =>
      by_cases h : k = 0
      · subst h; exact List.mem_cons_self
      · rw [path_pa h]; exact List.mem_cons_of_mem _ (ih _ (by unfold pa; omega))
  refine ⟨?_, ?_⟩
  · by_cases z : x = 0
    · subst z; exact absurd (m0 _) m2
    · omega
  · rcases List.mem_append.mp m1 with q | q <;> have := path_le q <;> omega
theorem wk_len {ps : List Nat} (a b : Nat) : (wk ps a b).1.length ≤ a + b + 2 := by
  obtain ⟨h1, h2, h3, h4⟩ := wk_spec (ps := ps) (a + b) a b (Nat.le_refl _)
  rw [h4.length_eq]
  refine Nat.le_trans (List.length_filter_le _ _) ?_
  rw [List.length_append]
  have := path_len (ps := ps) a
  have := path_len (ps := ps) b
  omega
theorem IL_perm {xs ys : List Nat} (h : xs.Perm ys) : (IL xs).Perm (IL ys) := h.map _
theorem sortI_perm2 {xs ys : List Int} (h : xs.Perm ys) : sortI xs = sortI ys := sortI_uniq ((sortI_perm xs).trans h) (sortI_sorted xs)
def way (ps : List Nat) (a b : Nat) : List Int := sortI (IL (wk ps a b).1)
theorem ints_li : ∀ xs : List Int, D.ints (xs.map .int) = some xs
  | [] => rfl
  | x :: xs => by rw [List.map_cons]; simp [D.ints, ints_li xs]
theorem gSorted_li (xs : List Int) : gSorted [.lst (xs.map .int)] = some (1, .lst ((sortI xs).map .int)) := by
  show (match D.ints (xs.map .int) with | some ns => some (1, D.lst ((sortI ns).map .int)) | none => none) = _
  rw [ints_li]
theorem pa_par {ps : List Nat} (par : ∀ i, i < ps.length → ps.getD i 0 ≤ i) {k : Nat} (h1 : 1 ≤ k) (h2 : k ≤ ps.length) : pa ps k = ps.getD (k - 1) 0 := by
  unfold pa
  have := par (k - 1) (by omega)
  omega
theorem gcdN_loop {X0 X1 : Option (Nat × D)} : ∀ (n a b : Nat), b < n → (sWh (tT (e2 gGt (eVar 3) (eC (.int 0)))) (sSeq (sPar (true, 2) (true, 3) (eVar 3) (e2 gMod (eVar 2) (eVar 3)))
  sNext)) [X0, X1, some (0, .int (a : Nat)), some (0, .int (b : Nat))] = .nx [X0, X1, some (0, .int ((Nat.gcd a b : Nat) : Int)), some (0, .int 0)]
  | 0, a, b, h => by omega
  | n + 1, a, b, h => by
    rw [sWh_k]
    by_cases z : b = 0
    · subst z
      walk_at "dl"
      rw [Nat.gcd_zero_right]
    · walk_at "dl"
      rw [decide_eq_true (show (0 : Int) < (b : Int) by omega)]
      walk_at "dl"
      rw [gMod_i (by omega)]
      walk_at "dl"
      have e : (a : Int).fmod (b : Int) = ((a % b : Nat) : Int) := by rw [Int.fmod_eq_emod_of_nonneg _ (by omega)]; rfl
      rw [e]
      have ih := gcdN_loop (X0 := X0) (X1 := X1) n b (a % b) (by have := Nat.mod_lt a (show 0 < b by omega); omega)
      rw [ih]
      congr 5
      rw [Nat.gcd_comm b (a % b), ← Nat.gcd_rec, Nat.gcd_comm]
theorem lowestW_k (x y : Int) (k : Nat) (h : 0 < y) (hy : y.natAbs < 2 ^ k) (hk : k ≤ 8000) : phi__law_lowest [.int x, .int y] = .ok 0 (nrm x y) [] := by
  unfold phi__law_lowest b__law_lowest nrm
  walk_at "dl"
  have e1 : y = (y.natAbs : Nat) := by omega
  have e2 : (if x < 0 then -x else x) = ((x.natAbs : Nat) : Int) := by split <;> omega
  rw [e2]
  have e3 : sgd x y = ((Nat.gcd y.natAbs x.natAbs : Nat) : Int) := by
    unfold sgd
    rw [if_neg (by omega), Nat.gcd_comm]
    rfl
  have l := gcdN_loop (X0 := some (0, .int x)) (X1 := some (0, .int y)) (x.natAbs + 1) y.natAbs x.natAbs (by omega)
  rw [← e1] at l
  rw [l, ← e3]
  walk_at "dl"
  have hn := sgd_ne (a := x) (b := y) (by omega)
  have hs := sgd_small (a := x) (b := y) (by omega) hy
  have hp := k_pos (b := y) (by omega) hy
  rw [gDiv_b k hs (by omega) hn hp]
  walk_at "dl"
  rw [gDiv_b k hs (by omega) hn hp]
  walk_at "dl"
theorem wk_comm (ps : List Nat) (a b : Nat) : wk ps a b = wk ps b a := by
  by_cases e : a = b
  · subst e; rfl
  · rw [wk_ne ps e, wk_ne ps (Ne.symm e), Nat.max_comm, Nat.min_comm]
structure Ask where
  one : Nat
  oth : Nat
  size : Int
  worth : Int
def Ask.d (q : Ask) : D := .tup [.int q.one, .int q.oth, .int q.size, .int q.worth]
structure AskOk (n : Nat) (q : Ask) : Prop where
  h1 : q.one ≤ n
  h2 : q.oth ≤ n
  ne : q.one ≠ q.oth
  s1 : 1 ≤ q.size
  s2 : q.size ≤ 1000000
  w1 : 1 ≤ q.worth
  w2 : q.worth ≤ 1000000000000
def Sh (n : Nat) (d : D) : Prop := d.py.canLay0 = true ∧ PyData.depth d.py ≤ n
theorem sh_all {n : Nat} : ∀ {ds : List D}, (∀ d ∈ ds, Sh n d) → PyData.canLayAll0 (D.pys ds) = true ∧ PyData.depthAll (D.pys ds) ≤ n + 1
  | [], _ => by simp [D.pys, PyData.canLayAll0, PyData.depthAll]
  | d :: ds, h => by
    obtain ⟨h1, h2⟩ := h d List.mem_cons_self
    obtain ⟨h3, h4⟩ := sh_all (n := n) fun x hx => h x (List.mem_cons_of_mem _ hx)
    simp only [D.pys, PyData.canLayAll0, PyData.depthAll, h1, h3, Bool.and_self, true_and]
    omega
theorem Sh.lst {n : Nat} {ds : List D} (h : ∀ d ∈ ds, Sh n d) : Sh (n + 2) (.lst ds) := by
  obtain ⟨h1, h2⟩ := sh_all h
  unfold Sh
  simp only [D.py, PyData.canLay0, PyData.depth]
  exact ⟨h1, by omega⟩
theorem Sh.tup {n : Nat} {ds : List D} (h : ∀ d ∈ ds, Sh n d) : Sh (n + 2) (.tup ds) := by
  obtain ⟨h1, h2⟩ := sh_all h
  unfold Sh
  simp only [D.py, PyData.canLay0, PyData.depth]
  exact ⟨h1, by omega⟩
theorem Sh.mono {n m : Nat} {d : D} (h : Sh n d) (hm : n ≤ m) : Sh m d := ⟨h.1, Nat.le_trans h.2 hm⟩
theorem sh_int (i : Int) : Sh 0 (.int i) := ⟨by simp [D.py, PyData.canLay0], by simp [D.py, PyData.depth]⟩
theorem sh_bl (b : Bool) : Sh 0 (.bl b) := ⟨by simp [D.py, PyData.canLay0], by simp [D.py, PyData.depth]⟩
theorem sh_non : Sh 0 .non := ⟨by simp [D.py, PyData.canLay0], by simp [D.py, PyData.depth]⟩
theorem sh_str {s : Str} (h : PyData.strOk s = true) : Sh 0 (.str s) := ⟨by simpa [D.py, PyData.canLay0] using h, by simp [D.py, PyData.depth]⟩
theorem Sh.shaped {n : Nat} {d : D} (h : Sh n d) (hn : n ≤ 60) : isShaped d = true := by
  unfold isShaped SeqAt.shaped
  rw [h.1, decide_eq_true (by have := h.2; omega)]
  rfl
theorem gNe_same {d : D} (h : isShaped d = true) : gNe d d = some (0, .bl false) := by
  have hc := SeqAt.canLay_of_shaped (show SeqAt.shaped (D.py d) = true from h)
  unfold gNe
  split
  · rename_i i j; simp [*]
  · rename_i i j; simp [*]
  · rename_i i j; simp [*]
  · rw [h]
    simp only [Bool.and_self, if_true]
    rw [SeqAt.eqv_refl _ hc]
    rfl
theorem gEq_same {d : D} (h : isShaped d = true) : gEq d d = some (0, .bl true) := by
  have hc := SeqAt.canLay_of_shaped (show SeqAt.shaped (D.py d) = true from h)
  unfold gEq
  split
  · rename_i i j; simp [*]
  · rename_i i j; simp [*]
  · rename_i i j; simp [*]
  · rw [h]
    simp only [Bool.and_self, if_true]
    rw [SeqAt.eqv_refl _ hc]
theorem eqv_tup2 (a b c d : Int) : PyData.eqv (.tuple [.int a, .int b]) (.tuple [.int c, .int d]) = decide (a = c ∧ b = d) := by
  simp only [PyData.eqv, PyData.eqvAll]
  by_cases h1 : a = c <;> by_cases h2 : b = d <;> simp [h1, h2]
theorem gNe_nil {ds : List D} (h : isShaped (.lst ds) = true) : gNe (.lst ds) (.lst []) = some (0, .bl (!ds.isEmpty)) := by
  have h0 : isShaped (.lst []) = true := rfl
  show (if isShaped (.lst ds) && isShaped (.lst []) then some (0, D.bl (!PyData.eqv (D.py (.lst ds)) (D.py (.lst [])))) else none) = _
  rw [h, h0]
  cases ds with
  | nil => rfl
  | cons q qs => simp [D.py, D.pys, PyData.eqv, PyData.eqvAll]
theorem sh_ints (xs : List Int) : Sh 2 (.lst (xs.map .int)) := Sh.lst fun d hd => by
  obtain ⟨i, _, rfl⟩ := List.mem_map.mp hd
  exact sh_int i
theorem sh_tr (ps : List Nat) (rs : List Int) : Sh 4 (D.tup [D.lst ((IL ps).map D.int), D.lst (rs.map D.int)]) := Sh.tup fun d hd => by
  simp only [List.mem_cons, List.not_mem_nil, or_false] at hd
  rcases hd with rfl | rfl
  · exact sh_ints _
  · exact sh_ints _
theorem sh_fr (r : Rat) : Sh 2 (fr r) := Sh.tup fun d hd => by
  simp only [List.mem_cons, List.not_mem_nil, or_false] at hd
  rcases hd with rfl | rfl <;> exact sh_int _
theorem sh_ask (q : Ask) : Sh 2 q.d := Sh.tup fun d hd => by
  simp only [List.mem_cons, List.not_mem_nil, or_false] at hd
  rcases hd with rfl | rfl | rfl | rfl <;> exact sh_int _
theorem sh_map {α : Type} {n : Nat} (g : α → D) (h : ∀ a, Sh n (g a)) (xs : List α) : Sh (n + 2) (.lst (xs.map g)) := Sh.lst fun d hd => by
  obtain ⟨i, _, rfl⟩ := List.mem_map.mp hd
  exact h i
theorem tr_set {ps : List Nat} {rs : List Int} (h : Tr ps rs) : Tr (ps.set (ps.length - 1) 0) rs := by
  refine ⟨by rw [List.length_set]; exact h.len, by rw [List.length_set]; exact h.pos, by rw [List.length_set]; exact h.le, fun i hi => ?_, h.room⟩
  rw [List.length_set] at hi
  rw [List.getD_eq_getElem?_getD, List.getElem?_set]
  split
  · simp [*]
  · rw [← List.getD_eq_getElem?_getD]; exact h.par i hi
theorem shaped_tr (ps : List Nat) (rs : List Int) : isShaped (D.tup [D.lst ((IL ps).map D.int), D.lst (rs.map D.int)]) = true := by
  unfold isShaped SeqAt.shaped
  simp only [D.py, D.pys, pys_ints]
  simp [PyData.canLay0, PyData.canLayAll0, PyData.depth, PyData.depthAll, lay_ints, dep_ints]
theorem gNe_tr (ps : List Nat) (rs : List Int) : gNe (D.tup [D.lst ((IL ps).map D.int), D.lst (rs.map D.int)]) (D.tup [D.lst ((IL ps).map D.int), D.lst (rs.map D.int)]) = some (0, .bl false) := by
  show (if isShaped (D.tup [D.lst ((IL ps).map D.int), D.lst (rs.map D.int)]) && isShaped (D.tup [D.lst ((IL ps).map D.int), D.lst (rs.map D.int)]) then some (0, D.bl (!PyData.eqv (D.py (D.tup [D.lst ((IL ps).map D.int), D.lst (rs.map D.int)])) (D.py (D.tup [D.lst ((IL ps).map D.int), D.lst (rs.map D.int)])))) else none) = _
  rw [shaped_tr]
  simp only [D.py, D.pys, pys_ints, PyData.eqv, PyData.eqvAll, eqv_ints, Bool.and_self, if_true, decide_true, Bool.not_true]
theorem clean_tr (ps : List Nat) (rs : List Int) : clean 1 (D.tup [D.lst ((IL ps).map D.int), D.lst (rs.map D.int)]) = true := by
  walk_at "dl"
theorem gNe_self {ds : List D} (h : isShaped (.lst ds) = true) : gNe (.lst ds) (.lst ds) = some (0, .bl false) := by
  have hc := SeqAt.canLay_of_shaped (show SeqAt.shaped (D.py (.lst ds)) = true from h)
  show (if isShaped (.lst ds) && isShaped (.lst ds) then some (0, D.bl (!PyData.eqv (D.py (.lst ds)) (D.py (.lst ds)))) else none) = _
  rw [h]
  simp only [Bool.and_self, if_true]
  rw [SeqAt.eqv_refl _ hc]
  rfl
def smp : D → Bool
  | .non | .bl _ | .int _ => true
  | .str x => PyData.strOk x
  | .lst [.int _] => true
  | .tup [.int _, .int _] => true
  | _ => false
theorem smp_x {d : D} (h : smp d = true) : d.isX = false := by
  cases d <;> first | rfl | cases h
theorem smp_lay {d : D} (h : smp d = true) : d.py.canLay0 = true ∧ PyData.depth d.py ≤ 1 := by
  unfold smp at h
  split at h
  all_goals first | cases h | skip
  all_goals simp [D.py, D.pys, PyData.canLay0, PyData.canLayAll0, PyData.depth, PyData.depthAll, *]
theorem smp_all : ∀ {ds : List D}, (∀ d ∈ ds, smp d = true) → PyData.canLayAll0 (D.pys ds) = true ∧ PyData.depthAll (D.pys ds) ≤ 2
  | [], _ => by simp [D.pys, PyData.canLayAll0, PyData.depthAll]
  | d :: ds, h => by
    obtain ⟨h1, h2⟩ := smp_lay (h d List.mem_cons_self)
    obtain ⟨h3, h4⟩ := smp_all fun x hx => h x (List.mem_cons_of_mem _ hx)
    simp only [D.pys, PyData.canLayAll0, PyData.depthAll, h1, h3, Bool.and_self, true_and]
    omega
theorem shaped_smp {ds : List D} (h : ∀ d ∈ ds, smp d = true) : isShaped (.lst ds) = true := by
  obtain ⟨h1, h2⟩ := smp_all h
  unfold isShaped SeqAt.shaped
  simp only [D.py, PyData.canLay0, PyData.depth, h1, Bool.true_and, decide_eq_true_eq]
  omega
def isFr2 : D → D → Bool
  | .int a, .int b => decide (0 < b) && decide (Int.gcd a b = 1)
  | _, _ => false
def isFr : D → Bool
  | .tup [a, b] => isFr2 a b
  | _ => false
def nx2 : D → Bool
  | .tup ds => ds.all fun d => !d.isX
  | d => !d.isX
theorem isFr_cases {d : D} (h : isFr d = true) : ∃ a b : Int, d = .tup [.int a, .int b] ∧ 0 < b ∧ Int.gcd a b = 1 := by
  cases d with
  | tup ds =>
    match ds, h with
    | [a, b], h =>
      have h : isFr2 a b = true := h
      cases a with
      | int i =>
        cases b with
        | int j =>
          have h : (decide (0 < j) && decide (Int.gcd i j = 1)) = true := h
          simp only [Bool.and_eq_true, decide_eq_true_eq] at h
          exact ⟨i, j, rfl, h.1, h.2⟩
        | _ => cases h
      | _ => cases h
    | [], h => cases h
    | [_], h => cases h
    | _ :: _ :: _ :: _, h => cases h
  | _ => cases h
theorem isFr_k (d : D) (hx : nx2 d = true) : phi_is_fraction [d] = .ok 0 (.bl (isFr d)) [] := by
  unfold phi_is_fraction b_is_fraction
  cases d with
  | exn c ns ds => cases hx
  | tup ds =>
    walk_at "dl"
    match ds, hx with
    | [], _ => walk_at "dl"; rfl
    | [_], _ => walk_at "dl"; rfl
    | a :: b :: c :: r, _ =>
      have e : decide ((((a :: b :: c :: r).length : Nat) : Int) = 2) = false := decide_eq_false (by simp only [List.length_cons]; omega)
      rw [e]
      walk_at "dl"
      rfl
    | [a, b], hx =>
      have hx : (!a.isX && (!b.isX && true)) = true := hx
      simp only [Bool.and_eq_true, Bool.not_eq_true', Bool.and_true] at hx
      walk_at "dl"
      rw [isWhole_k a hx.1]
      walk_at "dl"
      generalize ha : a.whole = wa
      cases wa
      · walk_at "dl"
        cases a <;> first | rfl | cases ha
      · obtain ⟨i, rfl⟩ := D.whole_int ha
        walk_at "dl"
        rw [isWhole_k b hx.2]
        walk_at "dl"
        generalize hb : b.whole = wb
        cases wb
        · walk_at "dl"
          cases b <;> first | rfl | cases hb
        · obtain ⟨j, rfl⟩ := D.whole_int hb
          walk_at "dl"
          by_cases z : j < 1
          · rw [decide_eq_true z]
            walk_at "dl"
            have : decide (0 < j) = false := decide_eq_false (by omega)
            simp only [isFr, isFr2, this, Bool.false_and]
          · rw [decide_eq_false z]
            walk_at "dl"
            rw [divisor_k]
            walk_at "dl"
            have : decide (0 < j) = true := decide_eq_true (by omega)
            simp only [isFr, isFr2, this, Bool.true_and]
            rw [show decide ((Int.gcd i j : Int) = 1) = decide (Int.gcd i j = 1) from decide_eq_decide.mpr (by omega)]
  | _ => walk_at "dl"; rfl
def nnD : D → Bool
  | .tup (.int a :: _) => decide (0 ≤ a)
  | _ => false
def prB (d : D) : Bool := isFr d && nnD d
def firstP (n : Nat) : Nat → List D → Option Nat
  | _, [] => none
  | i, d :: ds => if i = n ∨ prB d = false then some i else firstP n (i + 1) ds
def xPr (d : D) : XD := ⟨"NoPrices", ["number"], [d]⟩
theorem price_loop {T A : D} {n : Nat} : ∀ (ds : List D) (i : Nat) (s3 s4 : Option (Nat × D)), (∀ d ∈ ds, nx2 d = true) →
    ∃ s3' s4', forL (.tp [(true, 3), (true, 4)]) ((sSeq (sIf (tOrD (tT (e2 gEq (eVar 3) (eVar 2))) (tOrD (tNotD (tT (eCall [0] [none] phi_is_fraction (aCons (eVar 4) aNil)))) (tT (e2 gLt (e2 gIx (eVar 4) (eC (.int 0))) (eC (.int 0)))))) (sSeq (sRaiseN "NoPrices" ["number"] (aCons (eVar 3) aNil))
  sNext) sNext)
  sNext)) (enumD i ds) [some (0, T), some (0, A), some (0, .int n), s3, s4] = match firstP n i ds with
      | some j => .exc (xPr (.int (j : Nat))) [some (0, T), some (0, A), some (0, .int n), s3', s4']
      | none => .nx [some (0, T), some (0, A), some (0, .int n), s3', s4']
  | [], i, s3, s4, _ => ⟨s3, s4, rfl⟩
  | d :: ds, i, s3, s4, h => by
    obtain ⟨s3', s4', e⟩ := price_loop (T := T) (A := A) (n := n) ds (i + 1) (some (0, .int i)) (some (0, d)) fun x hx => h x (List.mem_cons_of_mem _ hx)
    have hf := isFr_k d (h d List.mem_cons_self)
    rw [show enumD i (d :: ds) = .tup [.int i, d] :: enumD (i + 1) ds from rfl]
    unfold firstP
    by_cases z : i = n
    · subst z
      rw [if_pos (.inl rfl)]
      refine ⟨some (0, .int i), some (0, d), ?_⟩
      walk_at "dl"
      rw [forL_cons]
      walk_at "dl"
      rw [forO_some]
      walk_at "dl"
      rfl
    · have z' : ¬ (i : Int) = (n : Int) := by omega
      cases hb : isFr d with
      | false =>
        rw [if_pos (.inr (by unfold prB; rw [hb]; rfl))]
        rw [hb] at hf
        refine ⟨some (0, .int i), some (0, d), ?_⟩
        rw [forL_cons]
        walk_at "dl"
        rw [forO_some]
        walk_at "dl"
        rw [decide_eq_false z']
        walk_at "dl"
        rw [hf]
        walk_at "dl"
        rfl
      | true =>
        obtain ⟨a, b, rfl, h1, h2⟩ := isFr_cases hb
        rw [hb] at hf
        by_cases y : a < 0
        · rw [if_pos (.inr (by unfold prB nnD; simp only [hb, Bool.true_and, decide_eq_false_iff_not]; omega))]
          refine ⟨some (0, .int i), some (0, .tup [.int a, .int b]), ?_⟩
          rw [forL_cons]
          walk_at "dl"
          rw [forO_some]
          walk_at "dl"
          rw [decide_eq_false z']
          walk_at "dl"
          rw [hf]
          walk_at "dl"
          rw [decide_eq_true y]
          walk_at "dl"
          rfl
        · rw [if_neg (by
            intro q
            rcases q with q | q
            · exact z q
            · unfold prB nnD at q
              simp only [hb, Bool.true_and, decide_eq_false_iff_not] at q
              omega)]
          refine ⟨s3', s4', ?_⟩
          rw [← e]
          rw [forL_cons]
          walk_at "dl"
          rw [forO_some]
          walk_at "dl"
          rw [decide_eq_false z']
          walk_at "dl"
          rw [hf]
          walk_at "dl"
          rw [decide_eq_false y]
          walk_at "dl"
def lookP (n : Nat) (ds : List D) : FRes := match firstP n 0 ds with
  | some j => .exc (xPr (.int (j : Nat))) []
  | none => if ds.length < n then .exc (xPr (.int (ds.length : Nat))) [] else .ok 0 .non []
theorem lookPricesD_k {ps : List Nat} {rs : List Int} (ht : Tr ps rs) (ds : List D) (hx : ∀ d ∈ ds, nx2 d = true) : phi_look_at_prices [(D.tup [D.lst ((IL ps).map D.int), D.lst (rs.map D.int)]), .lst ds] = lookP ps.length ds := by
  unfold phi_look_at_prices b_look_at_prices
  walk_at "dl"
  rw [look_k ht]
  walk_at "dl"
  have el : ((List.length ((IL ps).map D.int) : Nat) : Int) = (ps.length : Nat) := by rw [List.length_map, IL_len]
  rw [el]
  obtain ⟨s3, s4, e⟩ := price_loop (T := (D.tup [D.lst ((IL ps).map D.int), D.lst (rs.map D.int)])) (A := .lst ds) (n := ps.length) ds 0 none none hx
  rw [e]
  unfold lookP
  cases firstP ps.length 0 ds with
  | some j => walk_at "dl"
  | none =>
    walk_at "dl"
    by_cases z : ds.length < ps.length
    · rw [if_pos z, decide_eq_true (show ((ds.length : Nat) : Int) < ps.length by omega)]
      walk_at "dl"
      rfl
    · rw [if_neg z, decide_eq_false (show ¬ ((ds.length : Nat) : Int) < ps.length by omega)]
      walk_at "dl"
theorem lookPricesD_none {ps : List Nat} {rs : List Int} (ht : Tr ps rs) (d : D) (hd : gIsi "list" d = some (0, .bl false)) : phi_look_at_prices [(D.tup [D.lst ((IL ps).map D.int), D.lst (rs.map D.int)]), d] = .exc (xPr .non) [] := by
  unfold phi_look_at_prices b_look_at_prices
  walk_at "dl"
  rw [look_k ht]
  walk_at "dl"
  rw [hd]
  walk_at "dl"
  rfl
theorem erase_map {α β : Type} (f : α → β) : ∀ (xs : List α) (n : Nat), (xs.map f).eraseIdx n = (xs.eraseIdx n).map f
  | [], _ => rfl
  | x :: xs, 0 => rfl
  | x :: xs, n + 1 => by simp [erase_map f xs n]
theorem pop_IL {j : Nat} {p : List Nat} {e : D} {L : List Nat} {n k : Nat} {δ : DL.Env} (h : L[n]? = some k) (hn : n < 2 ^ 60) : popO2 (some n) (inW (n : Int)) ((IL L).map .int) δ j p e = .ok 0 (.int k) (put δ j (some (1, e.put p (.lst ((IL (L.eraseIdx n)).map .int))))) := by
  have e1 : ((IL L).map D.int)[n]? = some (.int k) := by unfold IL; rw [List.map_map, List.getElem?_map, h]; rfl
  have e2 : ((IL L).map D.int).eraseIdx n = (IL (L.eraseIdx n)).map .int := by unfold IL; rw [List.map_map, List.map_map, erase_map]
  rw [inW_i (by omega) (by omega), popO2_k e1, e2]
theorem IL_one (L : List Nat) (k : Nat) : (IL L).map D.int ++ [.int (k : Int)] = (IL (L ++ [k])).map .int := by simp [IL]
theorem range_go (n : Nat) : rangeD 0 ((n : Int)).toNat = (IL (List.range n)).map .int := by rw [Int.toNat_natCast, range_IL]
theorem cut_take {α : Type} (xs : List α) (u : Nat) : cutA xs none (some (u : Int)) = xs.take u := by
  unfold cutA
  rw [HT.sIx_none, HT.sIx_nat, List.drop_zero, Nat.sub_zero]
  by_cases h : u ≤ xs.length
  · rw [Nat.min_eq_left h]
  · rw [Nat.min_eq_right (by omega), List.take_of_length_le (Nat.le_refl _), List.take_of_length_le (by omega)]
theorem gSl_rn {ns : List Int} (u : Nat) : gSl (.scr ns) none (some (u : Int)) = some (1, .lst ((ns.take u).map .int)) := by
  show some (1, D.lst (cutA (ns.map .int) none (some (u : Int)))) = _
  rw [cut_take, List.map_take]
theorem gSl_63 {ns : List Int} : gSl (.scr ns) none (some 63) = some (1, .lst ((ns.take 63).map .int)) := gSl_rn 63
theorem gSl_l {ds : List D} {lo hi : Option Int} : gSl (.lst ds) lo hi = some (1, .lst (cutA ds lo hi)) := Eq.trans rfl rfl
theorem cut_drop {α : Type} (xs : List α) (u : Nat) : cutA xs (some (u : Int)) none = xs.drop u := by
  unfold cutA
  rw [HT.sIx_none, HT.sIx_nat]
  by_cases h : u ≤ xs.length
  · rw [Nat.min_eq_left h]
    exact List.take_of_length_le (by rw [List.length_drop]; omega)
  · rw [Nat.min_eq_right (by omega), List.drop_eq_nil_of_le (Nat.le_refl _), List.drop_eq_nil_of_le (by omega), List.take_nil]
theorem cut_drop1 {α : Type} (xs : List α) (u : Nat) : cutA xs (some ((u : Int) + 1)) none = xs.drop (u + 1) := cut_drop xs (u + 1)
theorem for_enumQ {α : Type} {g : α → D} {xs : List α} {t : Tgt} {body : SV} {δ : DL.Env} {r : SRes} (hF : forL t body (enumD 0 (xs.map g)) δ = r) (I : Nat → DL.Env → Prop) (Q : SRes → Prop) (h0 : I 0 δ)
    (st : ∀ i x δ, xs[i]? = some x → I i δ → okS (I (i + 1)) Q (fS t body (.tup [.int (i : Nat), g x]) δ)) : (∃ δ', r = .nx δ' ∧ I xs.length δ') ∨ Q r := by
  have hl : (enumD 0 (xs.map g)).length = xs.length := by
    have : ∀ (ds : List D) (n : Nat), (enumD n ds).length = ds.length := fun ds => by
      induction ds with
      | nil => intro n; rfl
      | cons d ds ih => intro n; show (enumD (n + 1) ds).length + 1 = _; rw [ih]; rfl
    rw [this, List.length_map]
  have := forL_gen (t := t) (body := body) I Q (enumD 0 (xs.map g)) 0 δ h0 (fun i d δ hi hI => by
    rw [enumD_get, List.getElem?_map] at hi
    rw [Nat.zero_add] at hI ⊢
    cases hx : xs[i]? with
    | none => rw [hx] at hi; cases hi
    | some x =>
      rw [hx] at hi
      have hi : d = .tup [.int ((0 + i : Nat) : Int), g x] := by simpa using hi.symm
      subst hi
      rw [Nat.zero_add]
      exact st i x δ hx hI)
  rw [hF, Nat.zero_add, hl] at this
  exact this
theorem for_enum {α : Type} {g : α → D} {xs : List α} {t : Tgt} {body : SV} {δ : DL.Env} {r : SRes} (hF : forL t body (enumD 0 (xs.map g)) δ = r) (I : Nat → DL.Env → Prop) (h0 : I 0 δ)
    (st : ∀ i x δ, xs[i]? = some x → I i δ → okS (I (i + 1)) noQ (fS t body (.tup [.int (i : Nat), g x]) δ)) : ∃ δ', r = .nx δ' ∧ I xs.length δ' := (for_enumQ hF I noQ h0 st).resolve_right id
theorem for_range0Q {t : Tgt} {body : SV} {n : Nat} {δ : DL.Env} {r : SRes} (hF : forL t body (rangeD 0 n) δ = r) (I : Nat → DL.Env → Prop) (Q : SRes → Prop) (h0 : I 0 δ)
    (st : ∀ i δ, i < n → I i δ → okS (I (i + 1)) Q (fS t body (.int i) δ)) : (∃ δ', r = .nx δ' ∧ I n δ') ∨ Q r := for_rangeQ hF I Q h0 fun i δ hi hI => by
  rw [Int.zero_add]; exact st i δ hi hI
theorem for_restD {t : Tgt} {body : SV} {ds : List D} {δ : DL.Env} {r : SRes} (hF : forL t body ds δ = r) (I : List D → DL.Env → Prop) (Q : SRes → Prop) (h0 : I ds δ)
    (st : ∀ x xs δ, I (x :: xs) δ → okS (I xs) Q (fS t body x δ)) : (∃ δ', r = .nx δ' ∧ I [] δ') ∨ Q r :=
  for_restQ (g := id) I Q st (xs := ds) (by rw [List.map_id]; exact hF) h0
theorem ixF0 (s : Rat) : gIx (fr s) (.int 0) = some (0, .int s.num) := Eq.trans rfl rfl
theorem ixF1 (s : Rat) : gIx (fr s) (.int 1) = some (0, .int (s.den : Nat)) := Eq.trans rfl rfl
local macro_rules | `(tactic| walk_at "go") => `(tactic| simp (maxDischargeDepth := 8) (disch := (first | (walk_at "dl"; done) | omega | assumption | (simp only [List.length_map, List.length_append, List.length_cons, List.length_nil, List.length_set, List.length_replicate, IL_len]; omega))) only [rk_tk_NoPrices_AskError, rk_tk_NoPrices_NoNumber, rk_tk_NoPrices_NoTree, rk_tk_NoPrices_NoAsks, rk_tk_NoPrices_NoKeep, rk_tk_NoPrices_NoPrices, rk_tk_NoPrices_NoShare, rk_tk_NoPrices_NoPointing, rk_tk_NoPrices_NoText, rk_tk_NoPrices_NoPlace, rk_tk_NoPrices_NoChange, rk_tk_NoPrices_TooMany, rk_tk_NoPrices_NoRow, rk_tk_NoPrices_NoName, rk_tk_NoAsks_AskError, rk_tk_NoAsks_NoNumber, rk_tk_NoAsks_NoTree, rk_tk_NoAsks_NoAsks, rk_tk_NoAsks_NoKeep, rk_tk_NoAsks_NoPrices, rk_tk_NoAsks_NoShare, rk_tk_NoAsks_NoPointing, rk_tk_NoAsks_NoText, rk_tk_NoAsks_NoPlace, rk_tk_NoAsks_NoChange, rk_tk_NoAsks_TooMany, rk_tk_NoAsks_NoRow, rk_tk_NoAsks_NoName, rk_tk_NoTree_AskError, rk_tk_NoTree_NoNumber, rk_tk_NoTree_NoTree, rk_tk_NoTree_NoAsks, rk_tk_NoTree_NoKeep, rk_tk_NoTree_NoPrices, rk_tk_NoTree_NoShare, rk_tk_NoTree_NoPointing, rk_tk_NoTree_NoText, rk_tk_NoTree_NoPlace, rk_tk_NoTree_NoChange, rk_tk_NoTree_TooMany, rk_tk_NoTree_NoRow, rk_tk_NoTree_NoName, rk_tk_NoChange_TooMany_NoRow_NoName_AskError, rk_tk_NoChange_TooMany_NoRow_NoName_NoNumber, rk_tk_NoChange_TooMany_NoRow_NoName_NoTree, rk_tk_NoChange_TooMany_NoRow_NoName_NoAsks, rk_tk_NoChange_TooMany_NoRow_NoName_NoKeep, rk_tk_NoChange_TooMany_NoRow_NoName_NoPrices, rk_tk_NoChange_TooMany_NoRow_NoName_NoShare, rk_tk_NoChange_TooMany_NoRow_NoName_NoPointing, rk_tk_NoChange_TooMany_NoRow_NoName_NoText, rk_tk_NoChange_TooMany_NoRow_NoName_NoPlace, rk_tk_NoChange_TooMany_NoRow_NoName_NoChange, rk_tk_NoChange_TooMany_NoRow_NoName_TooMany, rk_tk_NoChange_TooMany_NoRow_NoName_NoRow, rk_tk_NoChange_TooMany_NoRow_NoName_NoName, rk_tk_NoKeep_NoShare_NoPointing_NoText_NoNumber_NoPlace_AskError, rk_tk_NoKeep_NoShare_NoPointing_NoText_NoNumber_NoPlace_NoNumber, rk_tk_NoKeep_NoShare_NoPointing_NoText_NoNumber_NoPlace_NoTree, rk_tk_NoKeep_NoShare_NoPointing_NoText_NoNumber_NoPlace_NoAsks, rk_tk_NoKeep_NoShare_NoPointing_NoText_NoNumber_NoPlace_NoKeep, rk_tk_NoKeep_NoShare_NoPointing_NoText_NoNumber_NoPlace_NoPrices, rk_tk_NoKeep_NoShare_NoPointing_NoText_NoNumber_NoPlace_NoShare, rk_tk_NoKeep_NoShare_NoPointing_NoText_NoNumber_NoPlace_NoPointing, rk_tk_NoKeep_NoShare_NoPointing_NoText_NoNumber_NoPlace_NoText, rk_tk_NoKeep_NoShare_NoPointing_NoText_NoNumber_NoPlace_NoPlace, rk_tk_NoKeep_NoShare_NoPointing_NoText_NoNumber_NoPlace_NoChange, rk_tk_NoKeep_NoShare_NoPointing_NoText_NoNumber_NoPlace_TooMany, rk_tk_NoKeep_NoShare_NoPointing_NoText_NoNumber_NoPlace_NoRow, rk_tk_NoKeep_NoShare_NoPointing_NoText_NoNumber_NoPlace_NoName, rk_tk_ValueError_AskError, rk_tk_ValueError_NoNumber, rk_tk_ValueError_NoTree, rk_tk_ValueError_NoAsks, rk_tk_ValueError_NoKeep, rk_tk_ValueError_NoPrices, rk_tk_ValueError_NoShare, rk_tk_ValueError_NoPointing, rk_tk_ValueError_NoText, rk_tk_ValueError_NoPlace, rk_tk_ValueError_NoChange, rk_tk_ValueError_TooMany, rk_tk_ValueError_NoRow, rk_tk_ValueError_NoName, rk_te_AskError_AskError, rk_te_AskError_NoNumber, rk_te_AskError_NoTree, rk_te_AskError_NoAsks, rk_te_AskError_NoKeep, rk_te_AskError_NoPrices, rk_te_AskError_NoShare, rk_te_AskError_NoPointing, rk_te_AskError_NoText, rk_te_AskError_NoPlace, rk_te_AskError_NoChange, rk_te_AskError_TooMany, rk_te_AskError_NoRow, rk_te_AskError_NoName, rk_cl_number_NoTree, rk_f_cl_number_NoTree, rk_cl_number_NoAsks, rk_f_cl_number_NoAsks, rk_cl_number_NoKeep, rk_f_cl_number_NoKeep, rk_cl_number_NoPrices, rk_f_cl_number_NoPrices, rk_cl_number_NoShare, rk_f_cl_number_NoShare, eDsp_k, kdsp_ok, vals_nil, vals_cons, consV_ok, vC_k, vVar_k, lk0_ok, sStore1_k, ksto1_ok, sto1O_k, sto1O1_k, sto1O2_k, at1_k, at1O_k, put1_k, put1O_k, sRev1_k, rev1LO_k, rev1L_k, eDGet_k, kdg_ok, kdg1_ok, kdg2_ok, gDGet_i, gInK_i, gNotInK_i, isDct1_k, sDPut_k, kdp_ok, kdp1_ok, dpO_k, sRev_k, revO_k, rev1_k, sRem_k, krem_ok, remO_k, rem1_k, iR3_k, kr3_b, kr3_exc, ePop0_k, pop0_0k, eIdx_k, kidx_ok, kidx2_ok, sAppV_k, appV_k, thn_exc, eView_k, kview_ok, kview_exc, vwO_k, vwX_k, view_nil, view_t, view_f, fz1_some, fz1_none, merge_nil, merge_t, merge_f, mg2_k, mg1_none, mg1_z, mg1_s, mg1_n, mg1_d, clean_int, clean_bl, clean_non, clean_str, clean_tup, clean_lst, cleans_nil, cleans_cons, cleans_ints, cleans_app, put_tup, putO_k, tView_k, ktv_ok, vwT_k, sView_k, kvs_nx, kvs_ret, vsN_k, mergeS_nil, mergeS_t, mergeS_f, mgS_none, mgS_c, mgS_z, eIxM_k, kixm_0, kixm_1, kixm_z0, kixm_z1, sClear_k, clrO_k, clr1_k, sTry_k, ktry_nx, ktry_brk, ktry_cnt, ktry_ret, ktry_exc, hTry_nil, hTry_cons, selH_t, selH_f, hGo_s, hGo_n, nxH_k, endH_nx, endH_brk, endH_cnt, endH_ret, wipeH_s, wipeH_n, xd_cls, xd_ns, xd_ds, gIsX_k, isxO_s, gAt_k, atxO_t, isNon_x, clean_exn, sRaise0_k, sRaiseN_k, krai_1, krai_2, isi_exn, k1_exc, k2b_exc, k2_exc, kn_exc, kc_exc, ka_exc, kt_exc, tand_exc, tor_exc, tnot_exc, tsel_exc, kand_exc, kor_exc, knot_exc, kch3_exc, kch1_exc, kch_exc, ktup_exc, klst_exc, ksl3_exc, ksl2_exc, ksl_exc, ko_exc, kixo_exc, tselS_exc, kret_exc, kdrop_exc, kasg_exc, kpar2_exc, kpar_exc, kapp_exc, ksto2_exc, ksto_exc, kfor_exc, kiseq_exc, kr1_exc, kr2_exc, ken_exc, kzip_exc, krev_exc, kcall_exc, kixm_exc, krai_exc, gCnt_k, cntO_t, gIdx_k, gRev_k, ePop_k, kpop_ok, popO_k, popO1_k, sIns_k, kins_ok, kins2_ok, insO_k, sFrz_k, frzO_k, e1_k, k1_ok, e2_k, k2_ok, k2b_ok, eN_k, kn_ok, aCons_k, ka_ok, kc_ok, aNil_k, eC_k, toRes_none, toRes_pair, look_0, look_s, put_0, put_s, has_0, has_s, eVar_k, vOk_k, eMove_k, mOk_k, tT_k, kt_ok, tAnd_k, tOr_k, tNot_k, and_t, and_f, or_t, or_f, not_k, eIf_k, sel_t, sel_f, eAnd_k, eOr_k, eNot_k, kand_t, kand_f, kor_t, kor_f, knot_k, eChain_k, kch_ok, kch1_ok, kch2_t, kch2_f, kch3_ok, eTup_k, eLst_k, eSl_k, ksl_ok, ksl2_ok, ksl3_ok, oNone_k, oSome_k, ko_ok, eIxO_k, kixo_ok, ixO0_k, ixO1_k, sSeq_k, thn_nx, thn_ret, thn_brk, thn_cnt, sNext_k, sBrk_k, sCnt_k, sRetN_k, sIf_k, selS_t, selS_f, sRet_k, kret_ok, sExpr_k, kdrop_ok, sAsg_k, kasg_ok, nxO_some, oneO_t, setOne_k, set_nm, set_tup, set_lst0, set_lstS, many_nil, many_cons, manyO_some, md_t, md_f, sPar_k, kpar_ok, kpar2_ok, parO_some, sApp_k, kapp_ok, appO_k, appO1_k, sStore_k, ksto_ok, ksto2_ok, stoO_k, stoO1_k, stoO2_k, sFor_k, kfor_ok, kloop_nx, kloop_cnt, kloop_brk, kloop_ret, kloop_exc, iSeq_k, kiseq_l, kiseq_t, iR1_k, iR2_k, kr1_ok, kr2_ok, iEnum_k, iZip_k, iRev_k, ken_ok, kzip_ok, krev_ok, eCompN_k, kcomp_ok, wipe_nil, wipe_cons, cmpO_some, tYes_k, eCall_k, kcall_ok, bindO_some, kb_ok, kb_exc, backO_some, backX_some, aLend_k, lendO_some, consO_some, bind_nil, bind_F, bindT_t, bind_T, bindL_some, bind_L, none_nil, none_F, none_L, back_nil, back_F, back_T, back_L, runF_k, kfin_nx, kfin_ret, kfin_exc, finO_some, finX_some, outs_nil, outs_F, outs_O, start_cons, start_nil, start_nilS, gAdd_i, gSub_i, gMod_i, gNeg_i, gPow_i, gEq_i, gEq_b, gEq_s, gNe_i, gNe_b, gNe_s, gCmp_i, isNon_n, isNon_b, isNon_i, isNon_s, isNon_t, isNon_l, gIs_n, gIs_b, gIsNot_n, gIsNot_b, gLen_l, gLen_t, gLen_r, gAbs_i, gMax_i, gMin_i, gInt_i, gInt_t, gInt_f, gList_l, gList_t, gTuple_l, gTuple_t, mapO_k, gIx_l, gIx_t, gIx_r, atI_0, atI_1, atI_2, atI_3, atI_4, ixN_0, ixN_1, ixN_2, isi_non_bool, isi_non_int, isi_non_str, isi_non_tuple, isi_non_list, isi_non_dict, isi_bl_bool, isi_bl_int, isi_bl_str, isi_bl_tuple, isi_bl_list, isi_bl_dict, isi_int_bool, isi_int_int, isi_int_str, isi_int_tuple, isi_int_list, isi_int_dict, isi_str_bool, isi_str_int, isi_str_str, isi_str_tuple, isi_str_list, isi_str_dict, isi_tup_bool, isi_tup_int, isi_tup_str, isi_tup_tuple, isi_tup_list, isi_tup_dict, isi_lst_bool, isi_lst_int, isi_lst_str, isi_lst_tuple, isi_lst_list, isi_lst_dict, isi_dct_bool, isi_dct_int, isi_dct_str, isi_dct_tuple, isi_dct_list, isi_dct_dict, isi_scr_bool, isi_scr_int, isi_scr_str, isi_scr_tuple, isi_scr_list, isi_scr_dict, klst_0, ktup_0, klst_1, ktup_1, klst_2, ktup_2, klst_3, ktup_3, klst_4, ktup_4, klst_5, ktup_5, klst_6, ktup_6, klst_7, ktup_7, klst_8, ktup_8, klst_9, ktup_9, klst_10, ktup_10, klst_11, ktup_11, klst_12, ktup_12, klst_13, ktup_13, klst_14, ktup_14, klst_15, ktup_15, klst_16, ktup_16, klst_17, ktup_17, klst_18, ktup_18, klst_19, ktup_19, klst_20, ktup_20, at_nil, put_nil, at_tup, atO_k, lenIs_n, lenIs_c, isLst_l, ownL_k, dispM_eq, dsp_n, dsp_s, dsp_na, dsp_nm, dsp_sa, dsp_sm, dsp_sd, atom_t, atom_l, atom_d, atom_i, atom_b, atom_s, atom_n, joinM_a, joinM_0, ixO2_a, ixO2_0, dict0_k, kwh_t, kwh_f, atP_k, eLenO_k, lenO_k, List.map_cons, List.map_nil, ownL_k, eq_self, ne_eq, not_false_eq_true, decide_true, decide_false, Bool.not_true, Bool.not_false, if_true, if_false, reduceCtorEq, List.length_cons, List.length_nil, Int.reduceEq, Int.reduceNe, Int.reduceLT, Int.reduceLE, Int.reduceGT, Int.reduceGE, Int.reduceAdd, Int.reduceMul, Int.reduceSub, Int.reduceNeg, Int.reducePow, Int.reduceToNat, Bool.and_self, Bool.and_true, Bool.true_and, Nat.reduceAdd, Nat.reduceBEq, Nat.reduceLT, Nat.reduceEqDiff, Int.cast_ofNat_Int, Nat.zero_add, Nat.reduceLeDiff, List.set_cons_zero, List.set_cons_succ, List.getElem?_cons_zero, List.getElem?_cons_succ, List.nil_append, List.cons_append, Int.toNat_zero, Int.toNat_one, beq_self_eq_true, mg1_Z, fS_k, fS1_k, okS_nx, okS_cnt, okS_brk, okS_ret, okS_exc, okW_t, okW_f, okW_exc, cS_k, cS1_k, cS2_t, cS2_f, cS3_k, gMul_64, gDiv_64, gMod_p, gPow_10, kr1_b, kr2_b, ixN_b, appO1_b, stoO2_k, gAdd_lb, forL_cons, forL_nil, forO_some, List.length_map, List.length_append, List.length_set, Int.toNat_natCast, Int.reducePow, Int.reduceToNat, Nat.add_zero, Int.add_zero, Int.zero_add, decide_eq_true_eq, range_len, ite_true, ite_false, Bool.false_eq_true, Bool.cond_true, Bool.cond_false, pop_IL, IL_len, gListR_b, gSl_l, cut_take, cut_drop, cut_drop1, ixF0, ixF1, *])
local macro_rules | `(tactic| walk_at "gn") => `(tactic| simp (maxDischargeDepth := 8) (disch := (first | (walk_at "dl"; done) | omega | assumption | (simp only [List.length_map, List.length_append, List.length_cons, List.length_nil, List.length_set, List.length_replicate, IL_len]; omega))) only [rk_tk_NoPrices_AskError, rk_tk_NoPrices_NoNumber, rk_tk_NoPrices_NoTree, rk_tk_NoPrices_NoAsks, rk_tk_NoPrices_NoKeep, rk_tk_NoPrices_NoPrices, rk_tk_NoPrices_NoShare, rk_tk_NoPrices_NoPointing, rk_tk_NoPrices_NoText, rk_tk_NoPrices_NoPlace, rk_tk_NoPrices_NoChange, rk_tk_NoPrices_TooMany, rk_tk_NoPrices_NoRow, rk_tk_NoPrices_NoName, rk_tk_NoAsks_AskError, rk_tk_NoAsks_NoNumber, rk_tk_NoAsks_NoTree, rk_tk_NoAsks_NoAsks, rk_tk_NoAsks_NoKeep, rk_tk_NoAsks_NoPrices, rk_tk_NoAsks_NoShare, rk_tk_NoAsks_NoPointing, rk_tk_NoAsks_NoText, rk_tk_NoAsks_NoPlace, rk_tk_NoAsks_NoChange, rk_tk_NoAsks_TooMany, rk_tk_NoAsks_NoRow, rk_tk_NoAsks_NoName, rk_tk_NoTree_AskError, rk_tk_NoTree_NoNumber, rk_tk_NoTree_NoTree, rk_tk_NoTree_NoAsks, rk_tk_NoTree_NoKeep, rk_tk_NoTree_NoPrices, rk_tk_NoTree_NoShare, rk_tk_NoTree_NoPointing, rk_tk_NoTree_NoText, rk_tk_NoTree_NoPlace, rk_tk_NoTree_NoChange, rk_tk_NoTree_TooMany, rk_tk_NoTree_NoRow, rk_tk_NoTree_NoName, rk_tk_NoChange_TooMany_NoRow_NoName_AskError, rk_tk_NoChange_TooMany_NoRow_NoName_NoNumber, rk_tk_NoChange_TooMany_NoRow_NoName_NoTree, rk_tk_NoChange_TooMany_NoRow_NoName_NoAsks, rk_tk_NoChange_TooMany_NoRow_NoName_NoKeep, rk_tk_NoChange_TooMany_NoRow_NoName_NoPrices, rk_tk_NoChange_TooMany_NoRow_NoName_NoShare, rk_tk_NoChange_TooMany_NoRow_NoName_NoPointing, rk_tk_NoChange_TooMany_NoRow_NoName_NoText, rk_tk_NoChange_TooMany_NoRow_NoName_NoPlace, rk_tk_NoChange_TooMany_NoRow_NoName_NoChange, rk_tk_NoChange_TooMany_NoRow_NoName_TooMany, rk_tk_NoChange_TooMany_NoRow_NoName_NoRow, rk_tk_NoChange_TooMany_NoRow_NoName_NoName, rk_tk_NoKeep_NoShare_NoPointing_NoText_NoNumber_NoPlace_AskError, rk_tk_NoKeep_NoShare_NoPointing_NoText_NoNumber_NoPlace_NoNumber, rk_tk_NoKeep_NoShare_NoPointing_NoText_NoNumber_NoPlace_NoTree, rk_tk_NoKeep_NoShare_NoPointing_NoText_NoNumber_NoPlace_NoAsks, rk_tk_NoKeep_NoShare_NoPointing_NoText_NoNumber_NoPlace_NoKeep, rk_tk_NoKeep_NoShare_NoPointing_NoText_NoNumber_NoPlace_NoPrices, rk_tk_NoKeep_NoShare_NoPointing_NoText_NoNumber_NoPlace_NoShare, rk_tk_NoKeep_NoShare_NoPointing_NoText_NoNumber_NoPlace_NoPointing, rk_tk_NoKeep_NoShare_NoPointing_NoText_NoNumber_NoPlace_NoText, rk_tk_NoKeep_NoShare_NoPointing_NoText_NoNumber_NoPlace_NoPlace, rk_tk_NoKeep_NoShare_NoPointing_NoText_NoNumber_NoPlace_NoChange, rk_tk_NoKeep_NoShare_NoPointing_NoText_NoNumber_NoPlace_TooMany, rk_tk_NoKeep_NoShare_NoPointing_NoText_NoNumber_NoPlace_NoRow, rk_tk_NoKeep_NoShare_NoPointing_NoText_NoNumber_NoPlace_NoName, rk_tk_ValueError_AskError, rk_tk_ValueError_NoNumber, rk_tk_ValueError_NoTree, rk_tk_ValueError_NoAsks, rk_tk_ValueError_NoKeep, rk_tk_ValueError_NoPrices, rk_tk_ValueError_NoShare, rk_tk_ValueError_NoPointing, rk_tk_ValueError_NoText, rk_tk_ValueError_NoPlace, rk_tk_ValueError_NoChange, rk_tk_ValueError_TooMany, rk_tk_ValueError_NoRow, rk_tk_ValueError_NoName, rk_te_AskError_AskError, rk_te_AskError_NoNumber, rk_te_AskError_NoTree, rk_te_AskError_NoAsks, rk_te_AskError_NoKeep, rk_te_AskError_NoPrices, rk_te_AskError_NoShare, rk_te_AskError_NoPointing, rk_te_AskError_NoText, rk_te_AskError_NoPlace, rk_te_AskError_NoChange, rk_te_AskError_TooMany, rk_te_AskError_NoRow, rk_te_AskError_NoName, rk_cl_number_NoTree, rk_f_cl_number_NoTree, rk_cl_number_NoAsks, rk_f_cl_number_NoAsks, rk_cl_number_NoKeep, rk_f_cl_number_NoKeep, rk_cl_number_NoPrices, rk_f_cl_number_NoPrices, rk_cl_number_NoShare, rk_f_cl_number_NoShare, eDsp_k, kdsp_ok, vals_nil, vals_cons, consV_ok, vC_k, vVar_k, lk0_ok, sStore1_k, ksto1_ok, sto1O_k, sto1O1_k, sto1O2_k, at1_k, at1O_k, put1_k, put1O_k, sRev1_k, rev1LO_k, rev1L_k, eDGet_k, kdg_ok, kdg1_ok, kdg2_ok, gDGet_i, gInK_i, gNotInK_i, isDct1_k, sDPut_k, kdp_ok, kdp1_ok, dpO_k, sRev_k, revO_k, rev1_k, sRem_k, krem_ok, remO_k, rem1_k, iR3_k, kr3_b, kr3_exc, ePop0_k, pop0_0k, eIdx_k, kidx_ok, kidx2_ok, sAppV_k, appV_k, thn_exc, eView_k, kview_ok, kview_exc, vwO_k, vwX_k, view_nil, view_t, view_f, fz1_some, fz1_none, merge_nil, merge_t, merge_f, mg2_k, mg1_none, mg1_z, mg1_s, mg1_n, mg1_d, clean_int, clean_bl, clean_non, clean_str, clean_tup, clean_lst, cleans_nil, cleans_cons, cleans_ints, cleans_app, put_tup, putO_k, tView_k, ktv_ok, vwT_k, sView_k, kvs_nx, kvs_ret, vsN_k, mergeS_nil, mergeS_t, mergeS_f, mgS_none, mgS_c, mgS_z, eIxM_k, kixm_0, kixm_1, kixm_z0, kixm_z1, sClear_k, clrO_k, clr1_k, sTry_k, ktry_nx, ktry_brk, ktry_cnt, ktry_ret, ktry_exc, hTry_nil, hTry_cons, selH_t, selH_f, hGo_s, hGo_n, nxH_k, endH_nx, endH_brk, endH_cnt, endH_ret, wipeH_s, wipeH_n, xd_cls, xd_ns, xd_ds, gIsX_k, isxO_s, gAt_k, atxO_t, isNon_x, clean_exn, sRaise0_k, sRaiseN_k, krai_1, krai_2, isi_exn, k1_exc, k2b_exc, k2_exc, kn_exc, kc_exc, ka_exc, kt_exc, tand_exc, tor_exc, tnot_exc, tsel_exc, kand_exc, kor_exc, knot_exc, kch3_exc, kch1_exc, kch_exc, ktup_exc, klst_exc, ksl3_exc, ksl2_exc, ksl_exc, ko_exc, kixo_exc, tselS_exc, kret_exc, kdrop_exc, kasg_exc, kpar2_exc, kpar_exc, kapp_exc, ksto2_exc, ksto_exc, kfor_exc, kiseq_exc, kr1_exc, kr2_exc, ken_exc, kzip_exc, krev_exc, kcall_exc, kixm_exc, krai_exc, gCnt_k, cntO_t, gIdx_k, gRev_k, ePop_k, kpop_ok, popO_k, popO1_k, sIns_k, kins_ok, kins2_ok, insO_k, sFrz_k, frzO_k, e1_k, k1_ok, e2_k, k2_ok, k2b_ok, eN_k, kn_ok, aCons_k, ka_ok, kc_ok, aNil_k, eC_k, toRes_none, toRes_pair, look_0, look_s, put_0, put_s, has_0, has_s, eVar_k, vOk_k, eMove_k, mOk_k, tT_k, kt_ok, tAnd_k, tOr_k, tNot_k, and_t, and_f, or_t, or_f, not_k, eIf_k, sel_t, sel_f, eAnd_k, eOr_k, eNot_k, kand_t, kand_f, kor_t, kor_f, knot_k, eChain_k, kch_ok, kch1_ok, kch2_t, kch2_f, kch3_ok, eTup_k, eLst_k, eSl_k, ksl_ok, ksl2_ok, ksl3_ok, oNone_k, oSome_k, ko_ok, eIxO_k, kixo_ok, ixO0_k, ixO1_k, sSeq_k, thn_nx, thn_ret, thn_brk, thn_cnt, sNext_k, sBrk_k, sCnt_k, sRetN_k, sIf_k, selS_t, selS_f, sRet_k, kret_ok, sExpr_k, kdrop_ok, sAsg_k, kasg_ok, nxO_some, oneO_t, setOne_k, set_nm, set_tup, set_lst0, set_lstS, many_nil, many_cons, manyO_some, md_t, md_f, sPar_k, kpar_ok, kpar2_ok, parO_some, sApp_k, kapp_ok, appO_k, appO1_k, sStore_k, ksto_ok, ksto2_ok, stoO_k, stoO1_k, stoO2_k, sFor_k, kfor_ok, kloop_nx, kloop_cnt, kloop_brk, kloop_ret, kloop_exc, iSeq_k, kiseq_l, kiseq_t, iR1_k, iR2_k, kr1_ok, kr2_ok, iEnum_k, iZip_k, iRev_k, ken_ok, kzip_ok, krev_ok, eCompN_k, kcomp_ok, wipe_nil, wipe_cons, cmpO_some, tYes_k, eCall_k, kcall_ok, bindO_some, kb_ok, kb_exc, backO_some, backX_some, aLend_k, lendO_some, consO_some, bind_nil, bind_F, bindT_t, bind_T, bindL_some, bind_L, none_nil, none_F, none_L, back_nil, back_F, back_T, back_L, runF_k, kfin_nx, kfin_ret, kfin_exc, finO_some, finX_some, outs_nil, outs_F, outs_O, start_cons, start_nil, start_nilS, gAdd_i, gSub_i, gMod_i, gNeg_i, gPow_i, gEq_i, gEq_b, gEq_s, gNe_i, gNe_b, gNe_s, gCmp_i, isNon_n, isNon_b, isNon_i, isNon_s, isNon_t, isNon_l, gIs_n, gIs_b, gIsNot_n, gIsNot_b, gLen_l, gLen_t, gLen_r, gAbs_i, gMax_i, gMin_i, gInt_i, gInt_t, gInt_f, gList_l, gList_t, gTuple_l, gTuple_t, mapO_k, gIx_l, gIx_t, gIx_r, atI_0, atI_1, atI_2, atI_3, atI_4, ixN_0, ixN_1, ixN_2, isi_non_bool, isi_non_int, isi_non_str, isi_non_tuple, isi_non_list, isi_non_dict, isi_bl_bool, isi_bl_int, isi_bl_str, isi_bl_tuple, isi_bl_list, isi_bl_dict, isi_int_bool, isi_int_int, isi_int_str, isi_int_tuple, isi_int_list, isi_int_dict, isi_str_bool, isi_str_int, isi_str_str, isi_str_tuple, isi_str_list, isi_str_dict, isi_tup_bool, isi_tup_int, isi_tup_str, isi_tup_tuple, isi_tup_list, isi_tup_dict, isi_lst_bool, isi_lst_int, isi_lst_str, isi_lst_tuple, isi_lst_list, isi_lst_dict, isi_dct_bool, isi_dct_int, isi_dct_str, isi_dct_tuple, isi_dct_list, isi_dct_dict, isi_scr_bool, isi_scr_int, isi_scr_str, isi_scr_tuple, isi_scr_list, isi_scr_dict, klst_0, ktup_0, klst_1, ktup_1, klst_2, ktup_2, klst_3, ktup_3, klst_4, ktup_4, klst_5, ktup_5, klst_6, ktup_6, klst_7, ktup_7, klst_8, ktup_8, klst_9, ktup_9, klst_10, ktup_10, klst_11, ktup_11, klst_12, ktup_12, klst_13, ktup_13, klst_14, ktup_14, klst_15, ktup_15, klst_16, ktup_16, klst_17, ktup_17, klst_18, ktup_18, klst_19, ktup_19, klst_20, ktup_20, at_nil, put_nil, at_tup, atO_k, lenIs_n, lenIs_c, isLst_l, ownL_k, dispM_eq, dsp_n, dsp_s, dsp_na, dsp_nm, dsp_sa, dsp_sm, dsp_sd, atom_t, atom_l, atom_d, atom_i, atom_b, atom_s, atom_n, joinM_a, joinM_0, ixO2_a, ixO2_0, dict0_k, kwh_t, kwh_f, atP_k, eLenO_k, lenO_k, List.map_cons, List.map_nil, ownL_k, eq_self, ne_eq, not_false_eq_true, decide_true, decide_false, Bool.not_true, Bool.not_false, if_true, if_false, reduceCtorEq, List.length_cons, List.length_nil, Int.reduceEq, Int.reduceNe, Int.reduceLT, Int.reduceLE, Int.reduceGT, Int.reduceGE, Int.reduceAdd, Int.reduceMul, Int.reduceSub, Int.reduceNeg, Int.reducePow, Int.reduceToNat, Bool.and_self, Bool.and_true, Bool.true_and, Nat.reduceAdd, Nat.reduceBEq, Nat.reduceLT, Nat.reduceEqDiff, Int.cast_ofNat_Int, Nat.zero_add, Nat.reduceLeDiff, List.set_cons_zero, List.set_cons_succ, List.getElem?_cons_zero, List.getElem?_cons_succ, List.nil_append, List.cons_append, Int.toNat_zero, Int.toNat_one, beq_self_eq_true, mg1_Z, fS_k, fS1_k, okS_nx, okS_cnt, okS_brk, okS_ret, okS_exc, okW_t, okW_f, okW_exc, cS_k, cS1_k, cS2_t, cS2_f, cS3_k, gMul_64, gDiv_64, gMod_p, gPow_10, kr1_b, kr2_b, ixN_b, appO1_b, stoO2_k, gAdd_lb, forL_cons, forL_nil, forO_some, List.length_map, List.length_append, List.length_set, Int.toNat_natCast, Int.reducePow, Int.reduceToNat, Nat.add_zero, Int.add_zero, Int.zero_add, decide_eq_true_eq, range_len, ite_true, ite_false, Bool.false_eq_true, Bool.cond_true, Bool.cond_false, pop_IL, IL_len, gListR_b, gSl_l, cut_take, cut_drop, cut_drop1, ixF0, ixF1])
theorem lawWh28_k (d : D) (hx : d.isX = false) : phi__law_whole [d] = .ok 0 (.bl d.whole) [] := by
  unfold phi__law_whole b__law_whole
  cases d with
  | exn c n ds => cases hx
  | _ => walk_at "gn"; rfl
theorem low_same {i j : Int} (h : 0 < j) : decide (i.fdiv (sgd i j) = i ∧ j.fdiv (sgd i j) = j) = decide (Int.gcd i j = 1) := by
  refine decide_eq_decide.mpr ?_
  have hg : 0 < Int.gcd i j := Int.gcd_pos_of_ne_zero_right i (by omega)
  have hs : sgd i j = (Int.gcd i j : Int) := by unfold sgd; rw [if_neg (by omega)]
  rw [hs]
  constructor
  · rintro ⟨_, h2⟩
    obtain ⟨c, hc⟩ := Int.gcd_dvd_right i j
    rw [Int.fdiv_eq_ediv_of_nonneg _ (by omega)] at h2
    have h3 : j / (Int.gcd i j : Int) = c := by
      conv => lhs; lhs; rw [hc]
      exact Int.mul_ediv_cancel_left c (by omega)
    rw [h3] at h2
    have h4 : (Int.gcd i j : Int) * j = j := by
      conv => rhs; rw [hc, h2]
    have h5 : ((Int.gcd i j : Int) - 1) * j = 0 := by rw [Int.sub_mul, h4]; omega
    rcases Int.mul_eq_zero.mp h5 with h6 | h6 <;> omega
  · intro h1
    rw [h1]
    exact ⟨Int.fdiv_one _, Int.fdiv_one _⟩
theorem lawPr23_k (d : D) (hx : nx2 d = true) (hsm : ∀ a b : Int, d = .tup [.int a, .int b] → b.natAbs < 2 ^ 400) : phi__law_is_price [d] = .ok 0 (.bl (prB d)) [] := by
  unfold phi__law_is_price b__law_is_price
  cases d with
  | exn c ns ds => cases hx
  | tup ds =>
    walk_at "gn"
    match ds, hx with
    | [], _ => walk_at "gn"; rfl
    | [_], _ => walk_at "gn"; rfl
    | a :: b :: c :: r, _ =>
      have e : decide ((((a :: b :: c :: r).length : Nat) : Int) = 2) = false := decide_eq_false (by simp only [List.length_cons]; omega)
      rw [e]
      walk_at "gn"
      rfl
    | [a, b], hx =>
      have hx : (!a.isX && (!b.isX && true)) = true := hx
      simp only [Bool.and_eq_true, Bool.not_eq_true', Bool.and_true] at hx
      walk_at "gn"
      rw [lawWh28_k a hx.1]
      walk_at "gn"
      generalize ha : a.whole = wa
      cases wa
      · walk_at "gn"
        cases a <;> first | rfl | cases ha
      · obtain ⟨i, rfl⟩ := D.whole_int ha
        walk_at "gn"
        rw [lawWh28_k b hx.2]
        walk_at "gn"
        generalize hb : b.whole = wb
        cases wb
        · walk_at "gn"
          cases b <;> first | rfl | cases hb
        · obtain ⟨j, rfl⟩ := D.whole_int hb
          have hj := hsm i j rfl
          walk_at "gn"
          by_cases y : 0 ≤ i
          · rw [decide_eq_true y]
            walk_at "gn"
            by_cases z : 0 < j
            · rw [decide_eq_true z]
              walk_at "gn"
              rw [lowestW_k i j 400 z hj (by decide)]
              unfold nrm
              walk_at "gn"
              rw [gEq_tup2]
              walk_at "gn"
              rw [low_same z]
              simp only [prB, nnD, isFr, isFr2, decide_eq_true z, decide_eq_true y, Bool.true_and, Bool.and_true]
            · rw [decide_eq_false z]
              walk_at "gn"
              simp only [prB, nnD, isFr, isFr2, decide_eq_false z, Bool.false_and]
          · rw [decide_eq_false y]
            walk_at "gn"
            simp only [prB, nnD, decide_eq_false y, Bool.and_false]
  | _ => walk_at "gn"; rfl
structure OkI (d : D) : Prop where
  nx : nx2 d = true
  sm : ∀ a b, d = .tup [.int a, .int b] → b.natAbs < 2 ^ 400
  cn : d.can = true
  dp : PyData.depth d.py ≤ 4
theorem okI_c {d : D} (h1 : nx2 d = true) (h2 : ∀ a b, d ≠ .tup [.int a, .int b]) (h3 : d.can = true) (h4 : PyData.depth d.py ≤ 4) : OkI d := ⟨h1, fun a b e => absurd e (h2 a b), h3, h4⟩
theorem okI_pair {a b : Int} (h : b.natAbs < 2 ^ 400) : OkI (.tup [.int a, .int b]) := ⟨rfl, fun x y e => by
  injection e with e; injection e with e1 e2; injection e2 with e2; injection e2 with e2
  rw [← e2]; exact h, by simp [D.can, D.cans], by simp [D.py, D.pys, PyData.depth, PyData.depthAll, PyData.depthKv]⟩
theorem okI_fr {r : Rat} (h : r.den < 2 ^ 200) : OkI (fr r) := okI_pair (a := r.num) (b := (r.den : Nat)) (by
  have : (2 : Nat) ^ 200 ≤ 2 ^ 400 := Nat.pow_le_pow_right (by decide) (by decide)
  omega)
theorem fall_nil {α : Type} {P : α → Prop} : ∀ y ∈ ([] : List α), P y := fun y h => absurd h List.not_mem_nil
theorem fall_cons {α : Type} {P : α → Prop} {x : α} {xs : List α} (h : P x) (t : ∀ y ∈ xs, P y) : ∀ y ∈ x :: xs, P y := fun y hy => by
  rcases List.mem_cons.mp hy with e | e
  · rw [e]; exact h
  · exact t y e
theorem pick23 {α : Type} {xs : List α} {i : Int} {X : Option α} {P : α → Prop} (h : atI xs i = X) (hP : ∀ x ∈ xs, P x) (h0 : 0 ≤ i) (h1 : i < xs.length) : ∃ x, X = some x ∧ P x := by
  obtain ⟨x, hx, e⟩ := get_some h0 h1
  exact ⟨x, by rw [← h, e], hP x hx⟩
theorem price23_k (a b : Int) (hb : Sd b) : ∃ (r : Rat) (m : Nat) (a' b' : Int), phi__law_price [.lst [.int a, .int b]] = .ok m (fr r) [.lst [.int a', .int b']] ∧ m = 0 ∧ Sd b' ∧ r.den < 2 ^ 200 ∧ r.num.natAbs < 2 ^ 200 := by
  unfold phi__law_price b__law_price
  obtain ⟨w, a1, b1, h1, w0, w1, hb1⟩ := draw_k a b 4 hb (by decide) (by decide)
  obtain ⟨sz, hsz, q6⟩ := get_some (xs := [D.int 1, .int 12, .int 1000000000, .int 1000000000000000000000000000000]) w0 (by simpa using w1)
  have hsz' : ∃ s : Int, sz = .int s ∧ 0 < s ∧ s ≤ 1000000000000000000000000000000 := by
    simp only [List.mem_cons, List.not_mem_nil, or_false] at hsz
    rcases hsz with rfl | rfl | rfl | rfl <;> exact ⟨_, rfl, by decide, by decide⟩
  obtain ⟨s, rfl, s0, s1⟩ := hsz'
  obtain ⟨x, a2, b2, h2, x0, x1, hb2⟩ := draw_k a1 b1 (9 * s) hb1 (by omega) (by omega)
  obtain ⟨y, a3, b3, h3, y0, y1, hb3⟩ := draw_k a2 b2 s hb2 (by omega) (by omega)
  have h4 := lowestW_k x (1 + y) 150 (by omega) (by omega) (by decide)
  walk_at "go"
  rw [nrm_divInt _ _ (by omega)]
  have bd := bd_divInt (x := x) (y := 1 + y) (k := 200) (by omega) (by omega) (by omega)
  exact ⟨_, _, _, _, rfl, rfl, hb3, bd.d, bd.n⟩
theorem odd23_k (a b : Int) (hb : Sd b) : ∃ (d : D) (m : Nat) (a' b' : Int), phi__law_odd [.lst [.int a, .int b]] = .ok m d [.lst [.int a', .int b']] ∧ Sd b' ∧ OkI d := by
  obtain ⟨r, m, a1, b1, h1, rfl, hb1, hd, hn⟩ := price23_k a b hb
  rw [show fr r = .tup [.int r.num, .int (r.den : Nat)] from rfl] at h1
  obtain ⟨t, a2, b2, h2, t0, t1, hb2⟩ := draw_k a1 b1 28 hb1 (by decide) (by decide)
  generalize r.num = x at *
  obtain ⟨y, hy⟩ : ∃ y : Int, y = ((r.den : Nat) : Int) := ⟨_, rfl⟩
  rw [← hy] at h1
  have hy2 : y.natAbs < 2 ^ 200 := by omega
  have g1 : gMul (.int 2) (.int x) = some (0, .int (2 * x)) := gMul_b 2 200 (by decide) hn (by decide) (by decide) (by decide)
  have g2 : gMul (.int 2) (.int y) = some (0, .int (2 * y)) := gMul_b 2 200 (by decide) hy2 (by decide) (by decide) (by decide)
  have e2 : (2 : Nat) ^ 200 * 4 ≤ 2 ^ 400 := by decide
  unfold phi__law_odd b__law_odd
  walk_at "gn"
  rw [h1]
  walk_at "gn"
  rw [g1]
  walk_at "gn"
  rw [g2]
  walk_at "gn"
  rw [h2]
  walk_at "gn"
  generalize hX : atI _ t = X
  obtain ⟨d, rfl, hP⟩ := pick23 (P := OkI) hX (fall_cons (okI_c rfl (by intro _ _ e; cases e) (by simp [D.can, D.cans]) (by simp [D.py, D.pys, PyData.depth, PyData.depthAll, PyData.depthKv])) (fall_cons (okI_c rfl (by intro _ _ e; cases e) (by simp [D.can, D.cans]) (by simp [D.py, D.pys, PyData.depth, PyData.depthAll, PyData.depthKv])) (fall_cons (okI_c rfl (by intro _ _ e; cases e) (by simp [D.can, D.cans]) (by simp [D.py, D.pys, PyData.depth, PyData.depthAll, PyData.depthKv])) (fall_cons (okI_c rfl (by intro _ _ e; cases e) (by simp [D.can, D.cans]) (by simp [D.py, D.pys, PyData.depth, PyData.depthAll, PyData.depthKv])) (fall_cons (okI_c rfl (by intro _ _ e; cases e) (by simp [D.can, D.cans]) (by simp [D.py, D.pys, PyData.depth, PyData.depthAll, PyData.depthKv])) (fall_cons (okI_c rfl (by intro _ _ e; cases e) (by simp [D.can, D.cans]) (by simp [D.py, D.pys, PyData.depth, PyData.depthAll, PyData.depthKv])) (fall_cons (okI_c rfl (by intro _ _ e; cases e) (by simp [D.can, D.cans]) (by simp [D.py, D.pys, PyData.depth, PyData.depthAll, PyData.depthKv])) (fall_cons (okI_c rfl (by intro _ _ e; cases e) (by simp [D.can, D.cans]) (by simp [D.py, D.pys, PyData.depth, PyData.depthAll, PyData.depthKv])) (fall_cons (okI_c rfl (by intro _ _ e; cases e) (by simp [D.can, D.cans]) (by simp [D.py, D.pys, PyData.depth, PyData.depthAll, PyData.depthKv])) (fall_cons (okI_c rfl (by intro _ _ e; cases e) (by simp [D.can, D.cans]) (by simp [D.py, D.pys, PyData.depth, PyData.depthAll, PyData.depthKv])) (fall_cons (okI_c rfl (by intro _ _ e; cases e) (by simp [D.can, D.cans]) (by simp [D.py, D.pys, PyData.depth, PyData.depthAll, PyData.depthKv])) (fall_cons (okI_c rfl (by intro _ _ e; cases e) (by simp [D.can, D.cans]) (by simp [D.py, D.pys, PyData.depth, PyData.depthAll, PyData.depthKv])) (fall_cons (okI_c rfl (by intro _ _ e; cases e) (by simp [D.can, D.cans]) (by simp [D.py, D.pys, PyData.depth, PyData.depthAll, PyData.depthKv])) (fall_cons (okI_pair (by decide)) (fall_cons (okI_pair (by decide)) (fall_cons (okI_pair (by decide)) (fall_cons (okI_pair (by decide)) (fall_cons (okI_pair (by decide)) (fall_cons (okI_c rfl (by intro _ _ e; cases e) (by simp [D.can, D.cans]) (by simp [D.py, D.pys, PyData.depth, PyData.depthAll, PyData.depthKv])) (fall_cons (okI_c rfl (by intro _ _ e; cases e) (by simp [D.can, D.cans]) (by simp [D.py, D.pys, PyData.depth, PyData.depthAll, PyData.depthKv])) (fall_cons (okI_c rfl (by intro _ _ e; cases e) (by simp [D.can, D.cans]) (by simp [D.py, D.pys, PyData.depth, PyData.depthAll, PyData.depthKv])) (fall_cons (okI_c rfl (by intro _ _ e; cases e) (by simp [D.can, D.cans]) (by simp [D.py, D.pys, PyData.depth, PyData.depthAll, PyData.depthKv])) (fall_cons (okI_c rfl (by intro _ _ e; cases e) (by simp [D.can, D.cans]) (by simp [D.py, D.pys, PyData.depth, PyData.depthAll, PyData.depthKv])) (fall_cons (okI_pair (by decide)) (fall_cons (okI_pair (by decide)) (fall_cons (okI_pair (by omega)) (fall_cons (okI_pair (by omega)) (fall_cons (okI_c rfl (by intro _ _ e; cases e) (by simp [D.can, D.cans]) (by simp [D.py, D.pys, PyData.depth, PyData.depthAll, PyData.depthKv])) fall_nil)))))))))))))))))))))))))))) t0 (by show t < 28; exact t1)
  walk_at "gn"
  exact ⟨_, _, _, _, rfl, hb2, hP⟩
local macro_rules | `(tactic| walk_at "go") => `(tactic| simp (maxDischargeDepth := 8) (disch := (first | (walk_at "dl"; done) | omega | assumption | (simp only [List.length_map, List.length_append, List.length_cons, List.length_nil, List.length_set, List.length_replicate, IL_len]; omega))) only [rk_tk_NoPrices_AskError, rk_tk_NoPrices_NoNumber, rk_tk_NoPrices_NoTree, rk_tk_NoPrices_NoAsks, rk_tk_NoPrices_NoKeep, rk_tk_NoPrices_NoPrices, rk_tk_NoPrices_NoShare, rk_tk_NoPrices_NoPointing, rk_tk_NoPrices_NoText, rk_tk_NoPrices_NoPlace, rk_tk_NoPrices_NoChange, rk_tk_NoPrices_TooMany, rk_tk_NoPrices_NoRow, rk_tk_NoPrices_NoName, rk_tk_NoAsks_AskError, rk_tk_NoAsks_NoNumber, rk_tk_NoAsks_NoTree, rk_tk_NoAsks_NoAsks, rk_tk_NoAsks_NoKeep, rk_tk_NoAsks_NoPrices, rk_tk_NoAsks_NoShare, rk_tk_NoAsks_NoPointing, rk_tk_NoAsks_NoText, rk_tk_NoAsks_NoPlace, rk_tk_NoAsks_NoChange, rk_tk_NoAsks_TooMany, rk_tk_NoAsks_NoRow, rk_tk_NoAsks_NoName, rk_tk_NoTree_AskError, rk_tk_NoTree_NoNumber, rk_tk_NoTree_NoTree, rk_tk_NoTree_NoAsks, rk_tk_NoTree_NoKeep, rk_tk_NoTree_NoPrices, rk_tk_NoTree_NoShare, rk_tk_NoTree_NoPointing, rk_tk_NoTree_NoText, rk_tk_NoTree_NoPlace, rk_tk_NoTree_NoChange, rk_tk_NoTree_TooMany, rk_tk_NoTree_NoRow, rk_tk_NoTree_NoName, rk_tk_NoChange_TooMany_NoRow_NoName_AskError, rk_tk_NoChange_TooMany_NoRow_NoName_NoNumber, rk_tk_NoChange_TooMany_NoRow_NoName_NoTree, rk_tk_NoChange_TooMany_NoRow_NoName_NoAsks, rk_tk_NoChange_TooMany_NoRow_NoName_NoKeep, rk_tk_NoChange_TooMany_NoRow_NoName_NoPrices, rk_tk_NoChange_TooMany_NoRow_NoName_NoShare, rk_tk_NoChange_TooMany_NoRow_NoName_NoPointing, rk_tk_NoChange_TooMany_NoRow_NoName_NoText, rk_tk_NoChange_TooMany_NoRow_NoName_NoPlace, rk_tk_NoChange_TooMany_NoRow_NoName_NoChange, rk_tk_NoChange_TooMany_NoRow_NoName_TooMany, rk_tk_NoChange_TooMany_NoRow_NoName_NoRow, rk_tk_NoChange_TooMany_NoRow_NoName_NoName, rk_tk_NoKeep_NoShare_NoPointing_NoText_NoNumber_NoPlace_AskError, rk_tk_NoKeep_NoShare_NoPointing_NoText_NoNumber_NoPlace_NoNumber, rk_tk_NoKeep_NoShare_NoPointing_NoText_NoNumber_NoPlace_NoTree, rk_tk_NoKeep_NoShare_NoPointing_NoText_NoNumber_NoPlace_NoAsks, rk_tk_NoKeep_NoShare_NoPointing_NoText_NoNumber_NoPlace_NoKeep, rk_tk_NoKeep_NoShare_NoPointing_NoText_NoNumber_NoPlace_NoPrices, rk_tk_NoKeep_NoShare_NoPointing_NoText_NoNumber_NoPlace_NoShare, rk_tk_NoKeep_NoShare_NoPointing_NoText_NoNumber_NoPlace_NoPointing, rk_tk_NoKeep_NoShare_NoPointing_NoText_NoNumber_NoPlace_NoText, rk_tk_NoKeep_NoShare_NoPointing_NoText_NoNumber_NoPlace_NoPlace, rk_tk_NoKeep_NoShare_NoPointing_NoText_NoNumber_NoPlace_NoChange, rk_tk_NoKeep_NoShare_NoPointing_NoText_NoNumber_NoPlace_TooMany, rk_tk_NoKeep_NoShare_NoPointing_NoText_NoNumber_NoPlace_NoRow, rk_tk_NoKeep_NoShare_NoPointing_NoText_NoNumber_NoPlace_NoName, rk_tk_ValueError_AskError, rk_tk_ValueError_NoNumber, rk_tk_ValueError_NoTree, rk_tk_ValueError_NoAsks, rk_tk_ValueError_NoKeep, rk_tk_ValueError_NoPrices, rk_tk_ValueError_NoShare, rk_tk_ValueError_NoPointing, rk_tk_ValueError_NoText, rk_tk_ValueError_NoPlace, rk_tk_ValueError_NoChange, rk_tk_ValueError_TooMany, rk_tk_ValueError_NoRow, rk_tk_ValueError_NoName, rk_te_AskError_AskError, rk_te_AskError_NoNumber, rk_te_AskError_NoTree, rk_te_AskError_NoAsks, rk_te_AskError_NoKeep, rk_te_AskError_NoPrices, rk_te_AskError_NoShare, rk_te_AskError_NoPointing, rk_te_AskError_NoText, rk_te_AskError_NoPlace, rk_te_AskError_NoChange, rk_te_AskError_TooMany, rk_te_AskError_NoRow, rk_te_AskError_NoName, rk_cl_number_NoTree, rk_f_cl_number_NoTree, rk_cl_number_NoAsks, rk_f_cl_number_NoAsks, rk_cl_number_NoKeep, rk_f_cl_number_NoKeep, rk_cl_number_NoPrices, rk_f_cl_number_NoPrices, rk_cl_number_NoShare, rk_f_cl_number_NoShare, eDsp_k, kdsp_ok, vals_nil, vals_cons, consV_ok, vC_k, vVar_k, lk0_ok, sStore1_k, ksto1_ok, sto1O_k, sto1O1_k, sto1O2_k, at1_k, at1O_k, put1_k, put1O_k, sRev1_k, rev1LO_k, rev1L_k, eDGet_k, kdg_ok, kdg1_ok, kdg2_ok, gDGet_i, gInK_i, gNotInK_i, isDct1_k, sDPut_k, kdp_ok, kdp1_ok, dpO_k, sRev_k, revO_k, rev1_k, sRem_k, krem_ok, remO_k, rem1_k, iR3_k, kr3_b, kr3_exc, ePop0_k, pop0_0k, eIdx_k, kidx_ok, kidx2_ok, sAppV_k, appV_k, thn_exc, eView_k, kview_ok, kview_exc, vwO_k, vwX_k, view_nil, view_t, view_f, fz1_some, fz1_none, merge_nil, merge_t, merge_f, mg2_k, mg1_none, mg1_z, mg1_s, mg1_n, mg1_d, clean_int, clean_bl, clean_non, clean_str, clean_tup, clean_lst, cleans_nil, cleans_cons, cleans_ints, cleans_app, put_tup, putO_k, tView_k, ktv_ok, vwT_k, sView_k, kvs_nx, kvs_ret, vsN_k, mergeS_nil, mergeS_t, mergeS_f, mgS_none, mgS_c, mgS_z, eIxM_k, kixm_0, kixm_1, kixm_z0, kixm_z1, sClear_k, clrO_k, clr1_k, sTry_k, ktry_nx, ktry_brk, ktry_cnt, ktry_ret, ktry_exc, hTry_nil, hTry_cons, selH_t, selH_f, hGo_s, hGo_n, nxH_k, endH_nx, endH_brk, endH_cnt, endH_ret, wipeH_s, wipeH_n, xd_cls, xd_ns, xd_ds, gIsX_k, isxO_s, gAt_k, atxO_t, isNon_x, clean_exn, sRaise0_k, sRaiseN_k, krai_1, krai_2, isi_exn, k1_exc, k2b_exc, k2_exc, kn_exc, kc_exc, ka_exc, kt_exc, tand_exc, tor_exc, tnot_exc, tsel_exc, kand_exc, kor_exc, knot_exc, kch3_exc, kch1_exc, kch_exc, ktup_exc, klst_exc, ksl3_exc, ksl2_exc, ksl_exc, ko_exc, kixo_exc, tselS_exc, kret_exc, kdrop_exc, kasg_exc, kpar2_exc, kpar_exc, kapp_exc, ksto2_exc, ksto_exc, kfor_exc, kiseq_exc, kr1_exc, kr2_exc, ken_exc, kzip_exc, krev_exc, kcall_exc, kixm_exc, krai_exc, gCnt_k, cntO_t, gIdx_k, gRev_k, ePop_k, kpop_ok, popO_k, popO1_k, sIns_k, kins_ok, kins2_ok, insO_k, sFrz_k, frzO_k, e1_k, k1_ok, e2_k, k2_ok, k2b_ok, eN_k, kn_ok, aCons_k, ka_ok, kc_ok, aNil_k, eC_k, toRes_none, toRes_pair, look_0, look_s, put_0, put_s, has_0, has_s, eVar_k, vOk_k, eMove_k, mOk_k, tT_k, kt_ok, tAnd_k, tOr_k, tNot_k, and_t, and_f, or_t, or_f, not_k, eIf_k, sel_t, sel_f, eAnd_k, eOr_k, eNot_k, kand_t, kand_f, kor_t, kor_f, knot_k, eChain_k, kch_ok, kch1_ok, kch2_t, kch2_f, kch3_ok, eTup_k, eLst_k, eSl_k, ksl_ok, ksl2_ok, ksl3_ok, oNone_k, oSome_k, ko_ok, eIxO_k, kixo_ok, ixO0_k, ixO1_k, sSeq_k, thn_nx, thn_ret, thn_brk, thn_cnt, sNext_k, sBrk_k, sCnt_k, sRetN_k, sIf_k, selS_t, selS_f, sRet_k, kret_ok, sExpr_k, kdrop_ok, sAsg_k, kasg_ok, nxO_some, oneO_t, setOne_k, set_nm, set_tup, set_lst0, set_lstS, many_nil, many_cons, manyO_some, md_t, md_f, sPar_k, kpar_ok, kpar2_ok, parO_some, sApp_k, kapp_ok, appO_k, appO1_k, sStore_k, ksto_ok, ksto2_ok, stoO_k, stoO1_k, stoO2_k, sFor_k, kfor_ok, kloop_nx, kloop_cnt, kloop_brk, kloop_ret, kloop_exc, iSeq_k, kiseq_l, kiseq_t, iR1_k, iR2_k, kr1_ok, kr2_ok, iEnum_k, iZip_k, iRev_k, ken_ok, kzip_ok, krev_ok, eCompN_k, kcomp_ok, wipe_nil, wipe_cons, cmpO_some, tYes_k, eCall_k, kcall_ok, bindO_some, kb_ok, kb_exc, backO_some, backX_some, aLend_k, lendO_some, consO_some, bind_nil, bind_F, bindT_t, bind_T, bindL_some, bind_L, none_nil, none_F, none_L, back_nil, back_F, back_T, back_L, runF_k, kfin_nx, kfin_ret, kfin_exc, finO_some, finX_some, outs_nil, outs_F, outs_O, start_cons, start_nil, start_nilS, gAdd_i, gSub_i, gMod_i, gNeg_i, gPow_i, gEq_i, gEq_b, gEq_s, gNe_i, gNe_b, gNe_s, gCmp_i, isNon_n, isNon_b, isNon_i, isNon_s, isNon_t, isNon_l, gIs_n, gIs_b, gIsNot_n, gIsNot_b, gLen_l, gLen_t, gLen_r, gAbs_i, gMax_i, gMin_i, gInt_i, gInt_t, gInt_f, gList_l, gList_t, gTuple_l, gTuple_t, mapO_k, gIx_l, gIx_t, gIx_r, atI_0, atI_1, atI_2, atI_3, atI_4, ixN_0, ixN_1, ixN_2, isi_non_bool, isi_non_int, isi_non_str, isi_non_tuple, isi_non_list, isi_non_dict, isi_bl_bool, isi_bl_int, isi_bl_str, isi_bl_tuple, isi_bl_list, isi_bl_dict, isi_int_bool, isi_int_int, isi_int_str, isi_int_tuple, isi_int_list, isi_int_dict, isi_str_bool, isi_str_int, isi_str_str, isi_str_tuple, isi_str_list, isi_str_dict, isi_tup_bool, isi_tup_int, isi_tup_str, isi_tup_tuple, isi_tup_list, isi_tup_dict, isi_lst_bool, isi_lst_int, isi_lst_str, isi_lst_tuple, isi_lst_list, isi_lst_dict, isi_dct_bool, isi_dct_int, isi_dct_str, isi_dct_tuple, isi_dct_list, isi_dct_dict, isi_scr_bool, isi_scr_int, isi_scr_str, isi_scr_tuple, isi_scr_list, isi_scr_dict, klst_0, ktup_0, klst_1, ktup_1, klst_2, ktup_2, klst_3, ktup_3, klst_4, ktup_4, klst_5, ktup_5, klst_6, ktup_6, klst_7, ktup_7, klst_8, ktup_8, klst_9, ktup_9, klst_10, ktup_10, klst_11, ktup_11, klst_12, ktup_12, klst_13, ktup_13, klst_14, ktup_14, klst_15, ktup_15, klst_16, ktup_16, klst_17, ktup_17, klst_18, ktup_18, klst_19, ktup_19, klst_20, ktup_20, at_nil, put_nil, at_tup, atO_k, lenIs_n, lenIs_c, isLst_l, ownL_k, dispM_eq, dsp_n, dsp_s, dsp_na, dsp_nm, dsp_sa, dsp_sm, dsp_sd, atom_t, atom_l, atom_d, atom_i, atom_b, atom_s, atom_n, joinM_a, joinM_0, ixO2_a, ixO2_0, dict0_k, kwh_t, kwh_f, atP_k, eLenO_k, lenO_k, List.map_cons, List.map_nil, ownL_k, eq_self, ne_eq, not_false_eq_true, decide_true, decide_false, Bool.not_true, Bool.not_false, if_true, if_false, reduceCtorEq, List.length_cons, List.length_nil, Int.reduceEq, Int.reduceNe, Int.reduceLT, Int.reduceLE, Int.reduceGT, Int.reduceGE, Int.reduceAdd, Int.reduceMul, Int.reduceSub, Int.reduceNeg, Int.reducePow, Int.reduceToNat, Bool.and_self, Bool.and_true, Bool.true_and, Nat.reduceAdd, Nat.reduceBEq, Nat.reduceLT, Nat.reduceEqDiff, Int.cast_ofNat_Int, Nat.zero_add, Nat.reduceLeDiff, List.set_cons_zero, List.set_cons_succ, List.getElem?_cons_zero, List.getElem?_cons_succ, List.nil_append, List.cons_append, Int.toNat_zero, Int.toNat_one, beq_self_eq_true, mg1_Z, fS_k, fS1_k, okS_nx, okS_cnt, okS_brk, okS_ret, okS_exc, okW_t, okW_f, okW_exc, cS_k, cS1_k, cS2_t, cS2_f, cS3_k, gMul_64, gDiv_64, gMod_p, gPow_10, kr1_b, kr2_b, ixN_b, appO1_b, stoO2_k, gAdd_lb, forL_cons, forL_nil, forO_some, List.length_map, List.length_append, List.length_set, Int.toNat_natCast, Int.reducePow, Int.reduceToNat, Nat.add_zero, Int.add_zero, Int.zero_add, decide_eq_true_eq, range_len, ite_true, ite_false, Bool.false_eq_true, Bool.cond_true, Bool.cond_false, pop_IL, IL_len, gListR_b, gSl_l, cut_take, cut_drop, cut_drop1, ixF0, ixF1, *])
local macro_rules | `(tactic| walk_at "gn") => `(tactic| simp (maxDischargeDepth := 8) (disch := (first | (walk_at "dl"; done) | omega | assumption | (simp only [List.length_map, List.length_append, List.length_cons, List.length_nil, List.length_set, List.length_replicate, IL_len]; omega))) only [rk_tk_NoPrices_AskError, rk_tk_NoPrices_NoNumber, rk_tk_NoPrices_NoTree, rk_tk_NoPrices_NoAsks, rk_tk_NoPrices_NoKeep, rk_tk_NoPrices_NoPrices, rk_tk_NoPrices_NoShare, rk_tk_NoPrices_NoPointing, rk_tk_NoPrices_NoText, rk_tk_NoPrices_NoPlace, rk_tk_NoPrices_NoChange, rk_tk_NoPrices_TooMany, rk_tk_NoPrices_NoRow, rk_tk_NoPrices_NoName, rk_tk_NoAsks_AskError, rk_tk_NoAsks_NoNumber, rk_tk_NoAsks_NoTree, rk_tk_NoAsks_NoAsks, rk_tk_NoAsks_NoKeep, rk_tk_NoAsks_NoPrices, rk_tk_NoAsks_NoShare, rk_tk_NoAsks_NoPointing, rk_tk_NoAsks_NoText, rk_tk_NoAsks_NoPlace, rk_tk_NoAsks_NoChange, rk_tk_NoAsks_TooMany, rk_tk_NoAsks_NoRow, rk_tk_NoAsks_NoName, rk_tk_NoTree_AskError, rk_tk_NoTree_NoNumber, rk_tk_NoTree_NoTree, rk_tk_NoTree_NoAsks, rk_tk_NoTree_NoKeep, rk_tk_NoTree_NoPrices, rk_tk_NoTree_NoShare, rk_tk_NoTree_NoPointing, rk_tk_NoTree_NoText, rk_tk_NoTree_NoPlace, rk_tk_NoTree_NoChange, rk_tk_NoTree_TooMany, rk_tk_NoTree_NoRow, rk_tk_NoTree_NoName, rk_tk_NoChange_TooMany_NoRow_NoName_AskError, rk_tk_NoChange_TooMany_NoRow_NoName_NoNumber, rk_tk_NoChange_TooMany_NoRow_NoName_NoTree, rk_tk_NoChange_TooMany_NoRow_NoName_NoAsks, rk_tk_NoChange_TooMany_NoRow_NoName_NoKeep, rk_tk_NoChange_TooMany_NoRow_NoName_NoPrices, rk_tk_NoChange_TooMany_NoRow_NoName_NoShare, rk_tk_NoChange_TooMany_NoRow_NoName_NoPointing, rk_tk_NoChange_TooMany_NoRow_NoName_NoText, rk_tk_NoChange_TooMany_NoRow_NoName_NoPlace, rk_tk_NoChange_TooMany_NoRow_NoName_NoChange, rk_tk_NoChange_TooMany_NoRow_NoName_TooMany, rk_tk_NoChange_TooMany_NoRow_NoName_NoRow, rk_tk_NoChange_TooMany_NoRow_NoName_NoName, rk_tk_NoKeep_NoShare_NoPointing_NoText_NoNumber_NoPlace_AskError, rk_tk_NoKeep_NoShare_NoPointing_NoText_NoNumber_NoPlace_NoNumber, rk_tk_NoKeep_NoShare_NoPointing_NoText_NoNumber_NoPlace_NoTree, rk_tk_NoKeep_NoShare_NoPointing_NoText_NoNumber_NoPlace_NoAsks, rk_tk_NoKeep_NoShare_NoPointing_NoText_NoNumber_NoPlace_NoKeep, rk_tk_NoKeep_NoShare_NoPointing_NoText_NoNumber_NoPlace_NoPrices, rk_tk_NoKeep_NoShare_NoPointing_NoText_NoNumber_NoPlace_NoShare, rk_tk_NoKeep_NoShare_NoPointing_NoText_NoNumber_NoPlace_NoPointing, rk_tk_NoKeep_NoShare_NoPointing_NoText_NoNumber_NoPlace_NoText, rk_tk_NoKeep_NoShare_NoPointing_NoText_NoNumber_NoPlace_NoPlace, rk_tk_NoKeep_NoShare_NoPointing_NoText_NoNumber_NoPlace_NoChange, rk_tk_NoKeep_NoShare_NoPointing_NoText_NoNumber_NoPlace_TooMany, rk_tk_NoKeep_NoShare_NoPointing_NoText_NoNumber_NoPlace_NoRow, rk_tk_NoKeep_NoShare_NoPointing_NoText_NoNumber_NoPlace_NoName, rk_tk_ValueError_AskError, rk_tk_ValueError_NoNumber, rk_tk_ValueError_NoTree, rk_tk_ValueError_NoAsks, rk_tk_ValueError_NoKeep, rk_tk_ValueError_NoPrices, rk_tk_ValueError_NoShare, rk_tk_ValueError_NoPointing, rk_tk_ValueError_NoText, rk_tk_ValueError_NoPlace, rk_tk_ValueError_NoChange, rk_tk_ValueError_TooMany, rk_tk_ValueError_NoRow, rk_tk_ValueError_NoName, rk_te_AskError_AskError, rk_te_AskError_NoNumber, rk_te_AskError_NoTree, rk_te_AskError_NoAsks, rk_te_AskError_NoKeep, rk_te_AskError_NoPrices, rk_te_AskError_NoShare, rk_te_AskError_NoPointing, rk_te_AskError_NoText, rk_te_AskError_NoPlace, rk_te_AskError_NoChange, rk_te_AskError_TooMany, rk_te_AskError_NoRow, rk_te_AskError_NoName, rk_cl_number_NoTree, rk_f_cl_number_NoTree, rk_cl_number_NoAsks, rk_f_cl_number_NoAsks, rk_cl_number_NoKeep, rk_f_cl_number_NoKeep, rk_cl_number_NoPrices, rk_f_cl_number_NoPrices, rk_cl_number_NoShare, rk_f_cl_number_NoShare, eDsp_k, kdsp_ok, vals_nil, vals_cons, consV_ok, vC_k, vVar_k, lk0_ok, sStore1_k, ksto1_ok, sto1O_k, sto1O1_k, sto1O2_k, at1_k, at1O_k, put1_k, put1O_k, sRev1_k, rev1LO_k, rev1L_k, eDGet_k, kdg_ok, kdg1_ok, kdg2_ok, gDGet_i, gInK_i, gNotInK_i, isDct1_k, sDPut_k, kdp_ok, kdp1_ok, dpO_k, sRev_k, revO_k, rev1_k, sRem_k, krem_ok, remO_k, rem1_k, iR3_k, kr3_b, kr3_exc, ePop0_k, pop0_0k, eIdx_k, kidx_ok, kidx2_ok, sAppV_k, appV_k, thn_exc, eView_k, kview_ok, kview_exc, vwO_k, vwX_k, view_nil, view_t, view_f, fz1_some, fz1_none, merge_nil, merge_t, merge_f, mg2_k, mg1_none, mg1_z, mg1_s, mg1_n, mg1_d, clean_int, clean_bl, clean_non, clean_str, clean_tup, clean_lst, cleans_nil, cleans_cons, cleans_ints, cleans_app, put_tup, putO_k, tView_k, ktv_ok, vwT_k, sView_k, kvs_nx, kvs_ret, vsN_k, mergeS_nil, mergeS_t, mergeS_f, mgS_none, mgS_c, mgS_z, eIxM_k, kixm_0, kixm_1, kixm_z0, kixm_z1, sClear_k, clrO_k, clr1_k, sTry_k, ktry_nx, ktry_brk, ktry_cnt, ktry_ret, ktry_exc, hTry_nil, hTry_cons, selH_t, selH_f, hGo_s, hGo_n, nxH_k, endH_nx, endH_brk, endH_cnt, endH_ret, wipeH_s, wipeH_n, xd_cls, xd_ns, xd_ds, gIsX_k, isxO_s, gAt_k, atxO_t, isNon_x, clean_exn, sRaise0_k, sRaiseN_k, krai_1, krai_2, isi_exn, k1_exc, k2b_exc, k2_exc, kn_exc, kc_exc, ka_exc, kt_exc, tand_exc, tor_exc, tnot_exc, tsel_exc, kand_exc, kor_exc, knot_exc, kch3_exc, kch1_exc, kch_exc, ktup_exc, klst_exc, ksl3_exc, ksl2_exc, ksl_exc, ko_exc, kixo_exc, tselS_exc, kret_exc, kdrop_exc, kasg_exc, kpar2_exc, kpar_exc, kapp_exc, ksto2_exc, ksto_exc, kfor_exc, kiseq_exc, kr1_exc, kr2_exc, ken_exc, kzip_exc, krev_exc, kcall_exc, kixm_exc, krai_exc, gCnt_k, cntO_t, gIdx_k, gRev_k, ePop_k, kpop_ok, popO_k, popO1_k, sIns_k, kins_ok, kins2_ok, insO_k, sFrz_k, frzO_k, e1_k, k1_ok, e2_k, k2_ok, k2b_ok, eN_k, kn_ok, aCons_k, ka_ok, kc_ok, aNil_k, eC_k, toRes_none, toRes_pair, look_0, look_s, put_0, put_s, has_0, has_s, eVar_k, vOk_k, eMove_k, mOk_k, tT_k, kt_ok, tAnd_k, tOr_k, tNot_k, and_t, and_f, or_t, or_f, not_k, eIf_k, sel_t, sel_f, eAnd_k, eOr_k, eNot_k, kand_t, kand_f, kor_t, kor_f, knot_k, eChain_k, kch_ok, kch1_ok, kch2_t, kch2_f, kch3_ok, eTup_k, eLst_k, eSl_k, ksl_ok, ksl2_ok, ksl3_ok, oNone_k, oSome_k, ko_ok, eIxO_k, kixo_ok, ixO0_k, ixO1_k, sSeq_k, thn_nx, thn_ret, thn_brk, thn_cnt, sNext_k, sBrk_k, sCnt_k, sRetN_k, sIf_k, selS_t, selS_f, sRet_k, kret_ok, sExpr_k, kdrop_ok, sAsg_k, kasg_ok, nxO_some, oneO_t, setOne_k, set_nm, set_tup, set_lst0, set_lstS, many_nil, many_cons, manyO_some, md_t, md_f, sPar_k, kpar_ok, kpar2_ok, parO_some, sApp_k, kapp_ok, appO_k, appO1_k, sStore_k, ksto_ok, ksto2_ok, stoO_k, stoO1_k, stoO2_k, sFor_k, kfor_ok, kloop_nx, kloop_cnt, kloop_brk, kloop_ret, kloop_exc, iSeq_k, kiseq_l, kiseq_t, iR1_k, iR2_k, kr1_ok, kr2_ok, iEnum_k, iZip_k, iRev_k, ken_ok, kzip_ok, krev_ok, eCompN_k, kcomp_ok, wipe_nil, wipe_cons, cmpO_some, tYes_k, eCall_k, kcall_ok, bindO_some, kb_ok, kb_exc, backO_some, backX_some, aLend_k, lendO_some, consO_some, bind_nil, bind_F, bindT_t, bind_T, bindL_some, bind_L, none_nil, none_F, none_L, back_nil, back_F, back_T, back_L, runF_k, kfin_nx, kfin_ret, kfin_exc, finO_some, finX_some, outs_nil, outs_F, outs_O, start_cons, start_nil, start_nilS, gAdd_i, gSub_i, gMod_i, gNeg_i, gPow_i, gEq_i, gEq_b, gEq_s, gNe_i, gNe_b, gNe_s, gCmp_i, isNon_n, isNon_b, isNon_i, isNon_s, isNon_t, isNon_l, gIs_n, gIs_b, gIsNot_n, gIsNot_b, gLen_l, gLen_t, gLen_r, gAbs_i, gMax_i, gMin_i, gInt_i, gInt_t, gInt_f, gList_l, gList_t, gTuple_l, gTuple_t, mapO_k, gIx_l, gIx_t, gIx_r, atI_0, atI_1, atI_2, atI_3, atI_4, ixN_0, ixN_1, ixN_2, isi_non_bool, isi_non_int, isi_non_str, isi_non_tuple, isi_non_list, isi_non_dict, isi_bl_bool, isi_bl_int, isi_bl_str, isi_bl_tuple, isi_bl_list, isi_bl_dict, isi_int_bool, isi_int_int, isi_int_str, isi_int_tuple, isi_int_list, isi_int_dict, isi_str_bool, isi_str_int, isi_str_str, isi_str_tuple, isi_str_list, isi_str_dict, isi_tup_bool, isi_tup_int, isi_tup_str, isi_tup_tuple, isi_tup_list, isi_tup_dict, isi_lst_bool, isi_lst_int, isi_lst_str, isi_lst_tuple, isi_lst_list, isi_lst_dict, isi_dct_bool, isi_dct_int, isi_dct_str, isi_dct_tuple, isi_dct_list, isi_dct_dict, isi_scr_bool, isi_scr_int, isi_scr_str, isi_scr_tuple, isi_scr_list, isi_scr_dict, klst_0, ktup_0, klst_1, ktup_1, klst_2, ktup_2, klst_3, ktup_3, klst_4, ktup_4, klst_5, ktup_5, klst_6, ktup_6, klst_7, ktup_7, klst_8, ktup_8, klst_9, ktup_9, klst_10, ktup_10, klst_11, ktup_11, klst_12, ktup_12, klst_13, ktup_13, klst_14, ktup_14, klst_15, ktup_15, klst_16, ktup_16, klst_17, ktup_17, klst_18, ktup_18, klst_19, ktup_19, klst_20, ktup_20, at_nil, put_nil, at_tup, atO_k, lenIs_n, lenIs_c, isLst_l, ownL_k, dispM_eq, dsp_n, dsp_s, dsp_na, dsp_nm, dsp_sa, dsp_sm, dsp_sd, atom_t, atom_l, atom_d, atom_i, atom_b, atom_s, atom_n, joinM_a, joinM_0, ixO2_a, ixO2_0, dict0_k, kwh_t, kwh_f, atP_k, eLenO_k, lenO_k, List.map_cons, List.map_nil, ownL_k, eq_self, ne_eq, not_false_eq_true, decide_true, decide_false, Bool.not_true, Bool.not_false, if_true, if_false, reduceCtorEq, List.length_cons, List.length_nil, Int.reduceEq, Int.reduceNe, Int.reduceLT, Int.reduceLE, Int.reduceGT, Int.reduceGE, Int.reduceAdd, Int.reduceMul, Int.reduceSub, Int.reduceNeg, Int.reducePow, Int.reduceToNat, Bool.and_self, Bool.and_true, Bool.true_and, Nat.reduceAdd, Nat.reduceBEq, Nat.reduceLT, Nat.reduceEqDiff, Int.cast_ofNat_Int, Nat.zero_add, Nat.reduceLeDiff, List.set_cons_zero, List.set_cons_succ, List.getElem?_cons_zero, List.getElem?_cons_succ, List.nil_append, List.cons_append, Int.toNat_zero, Int.toNat_one, beq_self_eq_true, mg1_Z, fS_k, fS1_k, okS_nx, okS_cnt, okS_brk, okS_ret, okS_exc, okW_t, okW_f, okW_exc, cS_k, cS1_k, cS2_t, cS2_f, cS3_k, gMul_64, gDiv_64, gMod_p, gPow_10, kr1_b, kr2_b, ixN_b, appO1_b, stoO2_k, gAdd_lb, forL_cons, forL_nil, forO_some, List.length_map, List.length_append, List.length_set, Int.toNat_natCast, Int.reducePow, Int.reduceToNat, Nat.add_zero, Int.add_zero, Int.zero_add, decide_eq_true_eq, range_len, ite_true, ite_false, Bool.false_eq_true, Bool.cond_true, Bool.cond_false, pop_IL, IL_len, gListR_b, gSl_l, cut_take, cut_drop, cut_drop1, ixF0, ixF1])
structure OkL (ds : List D) : Prop where
  it : ∀ d ∈ ds, OkI d
  ln : ds.length ≤ 40
theorem due23_loop {n : Nat} {Z : D} : ∀ (ds : List D) (i : Nat) (s2 s3 : Option (Nat × D)), (∀ d ∈ ds, OkI d) →
    ∃ s2' s3', forL (.tp [(true, 2), (true, 3)]) ((sSeq (sIf (tOrD (tT (e2 gEq (eVar 2) (eVar 0))) (tNotD (tT (eCall [0] [none] phi__law_is_price (aCons (eVar 3) aNil))))) (sSeq (sRet (eLst (aCons (eC (.str "prices")) (aCons (eVar 2) aNil))))
  sNext) sNext)
  sNext)) (enumD i ds) [some (0, .int n), some (0, Z), s2, s3] = match firstP n i ds with
      | some j => .ret 1 (.lst [.str "prices", .int (j : Nat)]) [some (0, .int n), some (0, Z), s2', s3']
      | none => .nx [some (0, .int n), some (0, Z), s2', s3']
  | [], i, s2, s3, _ => ⟨s2, s3, rfl⟩
  | d :: ds, i, s2, s3, h => by
    obtain ⟨s2', s3', e⟩ := due23_loop (n := n) (Z := Z) ds (i + 1) (some (0, .int i)) (some (0, d)) fun x hx => h x (List.mem_cons_of_mem _ hx)
    have ho := h d List.mem_cons_self
    have hf := lawPr23_k d ho.nx ho.sm
    rw [show enumD i (d :: ds) = .tup [.int i, d] :: enumD (i + 1) ds from rfl]
    unfold firstP
    by_cases z : i = n
    · subst z
      rw [if_pos (.inl rfl)]
      refine ⟨some (0, .int i), some (0, d), ?_⟩
      rw [forL_cons]
      walk_at "dl"
      rw [forO_some]
      walk_at "dl"
    · have z' : ¬ (i : Int) = (n : Int) := by omega
      cases hb : prB d with
      | false =>
        rw [if_pos (.inr rfl)]
        rw [hb] at hf
        refine ⟨some (0, .int i), some (0, d), ?_⟩
        rw [forL_cons]
        walk_at "dl"
        rw [forO_some]
        walk_at "dl"
        rw [decide_eq_false z']
        walk_at "dl"
        rw [hf]
        walk_at "dl"
      | true =>
        rw [if_neg (by rintro (q | q); exact z q; cases q)]
        rw [hb] at hf
        refine ⟨s2', s3', ?_⟩
        rw [← e]
        rw [forL_cons]
        walk_at "dl"
        rw [forO_some]
        walk_at "dl"
        rw [decide_eq_false z']
        walk_at "dl"
        rw [hf]
        walk_at "dl"
def dueR (n : Nat) (ds : List D) : D := match firstP n 0 ds with
  | some j => .lst [.str "prices", .int (j : Nat)]
  | none => if ds.length < n then .lst [.str "prices", .int (ds.length : Nat)] else .lst [.str "good"]
theorem due23_k {n : Nat} {ds : List D} (h : OkL ds) : ∃ m, phi__law_due [.int n, .lst ds] = .ok m (dueR n ds) [] := by
  obtain ⟨s2, s3, e⟩ := due23_loop (n := n) (Z := .lst ds) ds 0 none none h.it
  unfold phi__law_due b__law_due dueR
  walk_at "gn"
  rw [e]
  cases firstP n 0 ds with
  | some j => walk_at "gn"; exact ⟨_, rfl⟩
  | none =>
    walk_at "gn"
    by_cases z : ds.length < n
    · rw [if_pos z, decide_eq_true (show ((ds.length : Nat) : Int) < n by omega)]
      walk_at "gn"
      exact ⟨_, rfl⟩
    · rw [if_neg z, decide_eq_false (show ¬ ((ds.length : Nat) : Int) < n by omega)]
      walk_at "gn"
      exact ⟨_, rfl⟩
theorem due23_no {n : Nat} {d : D} (h : gIsi "list" d = some (0, .bl false)) : ∃ m, phi__law_due [.int n, d] = .ok m (.lst [.str "prices", .non]) [] := by
  unfold phi__law_due b__law_due
  walk_at "gn"
  rw [h]
  walk_at "gn"
  exact ⟨_, rfl⟩
theorem c3_3 : cntO ([D.bl false, D.bl false, D.bl true].all D.atom) (List.countP (fun e => eqA e (D.bl true)) [D.bl false, D.bl false, D.bl true]) = some (0, .int 1) := Eq.trans rfl rfl
theorem i3_3 : idxO ([D.bl false, D.bl false, D.bl true].all D.atom) (List.findIdx? (fun e => eqA e (D.bl true)) [D.bl false, D.bl false, D.bl true]) = some (0, .int 2) := Eq.trans rfl rfl
theorem kind_prices (n : D) : phi__law_kind [.exn "NoPrices" ["number"] [n]] = .ok 0 (.str (Str.ofString "prices")) [] := by
  unfold phi__law_kind b__law_kind
  walk_at "gn"
  rw [c3_3]
  walk_at "gn"
  rw [i3_3]
  walk_at "gn"
theorem told23_x {T P n : D} (hn : n = .non ∨ ∃ i : Int, n = .int i) (h : phi_look_at_prices [T, P] = .exc (xPr n) []) : ∃ m, phi__law_told [T, P] = .ok m (.lst [.str "prices", n]) [] := by
  have k := kind_prices n
  unfold phi__law_told b__law_told
  walk_at "gn"
  rw [h, show xPr n = ⟨"NoPrices", ["number"], [n]⟩ from rfl]
  walk_at "gn"
  rw [k]
  rcases hn with rfl | ⟨i, rfl⟩
  all_goals (walk_at "gn"; exact ⟨_, rfl⟩)
theorem told23_g {T P : D} (h : phi_look_at_prices [T, P] = .ok 0 .non []) : ∃ m, phi__law_told [T, P] = .ok m (.lst [.str "good"]) [] := by
  unfold phi__law_told b__law_told
  walk_at "gn"
  rw [h]
  walk_at "gn"
  exact ⟨_, rfl⟩
theorem same23 {ps : List Nat} {rs : List Int} (ht : Tr ps rs) {d : D} (hd : (∃ ds, d = .lst ds ∧ OkL ds) ∨ gIsi "list" d = some (0, .bl false)) :
    ∃ (m m' : Nat) (r : D), phi__law_due [.int ps.length, d] = .ok m r [] ∧ phi__law_told [(D.tup [D.lst ((IL ps).map D.int), D.lst (rs.map D.int)]), d] = .ok m' r [] ∧ r.okE = true := by
  have ok2 : ∀ x : D, (x = .non ∨ ∃ i : Int, x = .int i) → (D.lst [.str "prices", x]).okE = true := fun x hx => by
    rcases hx with rfl | ⟨i, rfl⟩ <;> exact okE_of (by simp [D.can, D.cans]) (by simp [D.py, D.pys, PyData.depth, PyData.depthAll, PyData.depthKv])
  rcases hd with ⟨ds, rfl, h⟩ | h
  · obtain ⟨m, e1⟩ := due23_k (n := ps.length) h
    have e2 := lookPricesD_k ht ds fun d hd => (h.it d hd).nx
    unfold lookP at e2
    unfold dueR at e1
    cases hf : firstP ps.length 0 ds with
    | some j =>
      rw [hf] at e1 e2
      obtain ⟨m', e3⟩ := told23_x (.inr ⟨_, rfl⟩) e2
      exact ⟨_, _, _, e1, e3, ok2 _ (.inr ⟨_, rfl⟩)⟩
    | none =>
      rw [hf] at e1 e2
      simp only at e1 e2
      by_cases z : ds.length < ps.length
      · rw [if_pos z] at e1 e2
        obtain ⟨m', e3⟩ := told23_x (.inr ⟨_, rfl⟩) e2
        exact ⟨_, _, _, e1, e3, ok2 _ (.inr ⟨_, rfl⟩)⟩
      · rw [if_neg z] at e1 e2
        obtain ⟨m', e3⟩ := told23_g e2
        exact ⟨_, _, _, e1, e3, okE_of (by simp [D.can, D.cans]) (by simp [D.py, D.pys, PyData.depth, PyData.depthAll, PyData.depthKv])⟩
  · obtain ⟨m, e1⟩ := due23_no (n := ps.length) h
    obtain ⟨m', e3⟩ := told23_x (.inl rfl) (lookPricesD_none ht d h)
    exact ⟨_, _, _, e1, e3, ok2 _ (.inl rfl)⟩
theorem gA1 {xs : List D} {u : Nat} {x : D} (h : xs.length ≤ 100) : gAdd (.lst (xs.take u)) (.lst [x]) = some (1, .lst (xs.take u ++ [x])) := gAdd_lb (by rw [List.length_take]; simp only [List.length_cons, List.length_nil]; omega)
theorem gA2 {xs : List D} {u v : Nat} {x : D} (h : xs.length ≤ 100) : gAdd (.lst (xs.take u ++ [x])) (.lst (xs.drop v)) = some (1, .lst (xs.take u ++ [x] ++ xs.drop v)) := gAdd_lb (by rw [List.length_append, List.length_take, List.length_drop]; simp only [List.length_cons, List.length_nil]; omega)
theorem gA4 {xs : List D} {x : D} (h : xs.length ≤ 100) : gAdd (.lst xs) (.lst [x]) = some (1, .lst (xs ++ [x])) := gAdd_lb (by simp only [List.length_cons, List.length_nil]; omega)
local macro_rules | `(tactic| walk_at "go") => `(tactic| simp (maxDischargeDepth := 8) (disch := (first | (walk_at "dl"; done) | omega | assumption | (simp only [List.length_map, List.length_append, List.length_cons, List.length_nil, List.length_set, List.length_replicate, IL_len]; omega))) only [rk_tk_NoPrices_AskError, rk_tk_NoPrices_NoNumber, rk_tk_NoPrices_NoTree, rk_tk_NoPrices_NoAsks, rk_tk_NoPrices_NoKeep, rk_tk_NoPrices_NoPrices, rk_tk_NoPrices_NoShare, rk_tk_NoPrices_NoPointing, rk_tk_NoPrices_NoText, rk_tk_NoPrices_NoPlace, rk_tk_NoPrices_NoChange, rk_tk_NoPrices_TooMany, rk_tk_NoPrices_NoRow, rk_tk_NoPrices_NoName, rk_tk_NoAsks_AskError, rk_tk_NoAsks_NoNumber, rk_tk_NoAsks_NoTree, rk_tk_NoAsks_NoAsks, rk_tk_NoAsks_NoKeep, rk_tk_NoAsks_NoPrices, rk_tk_NoAsks_NoShare, rk_tk_NoAsks_NoPointing, rk_tk_NoAsks_NoText, rk_tk_NoAsks_NoPlace, rk_tk_NoAsks_NoChange, rk_tk_NoAsks_TooMany, rk_tk_NoAsks_NoRow, rk_tk_NoAsks_NoName, rk_tk_NoTree_AskError, rk_tk_NoTree_NoNumber, rk_tk_NoTree_NoTree, rk_tk_NoTree_NoAsks, rk_tk_NoTree_NoKeep, rk_tk_NoTree_NoPrices, rk_tk_NoTree_NoShare, rk_tk_NoTree_NoPointing, rk_tk_NoTree_NoText, rk_tk_NoTree_NoPlace, rk_tk_NoTree_NoChange, rk_tk_NoTree_TooMany, rk_tk_NoTree_NoRow, rk_tk_NoTree_NoName, rk_tk_NoChange_TooMany_NoRow_NoName_AskError, rk_tk_NoChange_TooMany_NoRow_NoName_NoNumber, rk_tk_NoChange_TooMany_NoRow_NoName_NoTree, rk_tk_NoChange_TooMany_NoRow_NoName_NoAsks, rk_tk_NoChange_TooMany_NoRow_NoName_NoKeep, rk_tk_NoChange_TooMany_NoRow_NoName_NoPrices, rk_tk_NoChange_TooMany_NoRow_NoName_NoShare, rk_tk_NoChange_TooMany_NoRow_NoName_NoPointing, rk_tk_NoChange_TooMany_NoRow_NoName_NoText, rk_tk_NoChange_TooMany_NoRow_NoName_NoPlace, rk_tk_NoChange_TooMany_NoRow_NoName_NoChange, rk_tk_NoChange_TooMany_NoRow_NoName_TooMany, rk_tk_NoChange_TooMany_NoRow_NoName_NoRow, rk_tk_NoChange_TooMany_NoRow_NoName_NoName, rk_tk_NoKeep_NoShare_NoPointing_NoText_NoNumber_NoPlace_AskError, rk_tk_NoKeep_NoShare_NoPointing_NoText_NoNumber_NoPlace_NoNumber, rk_tk_NoKeep_NoShare_NoPointing_NoText_NoNumber_NoPlace_NoTree, rk_tk_NoKeep_NoShare_NoPointing_NoText_NoNumber_NoPlace_NoAsks, rk_tk_NoKeep_NoShare_NoPointing_NoText_NoNumber_NoPlace_NoKeep, rk_tk_NoKeep_NoShare_NoPointing_NoText_NoNumber_NoPlace_NoPrices, rk_tk_NoKeep_NoShare_NoPointing_NoText_NoNumber_NoPlace_NoShare, rk_tk_NoKeep_NoShare_NoPointing_NoText_NoNumber_NoPlace_NoPointing, rk_tk_NoKeep_NoShare_NoPointing_NoText_NoNumber_NoPlace_NoText, rk_tk_NoKeep_NoShare_NoPointing_NoText_NoNumber_NoPlace_NoPlace, rk_tk_NoKeep_NoShare_NoPointing_NoText_NoNumber_NoPlace_NoChange, rk_tk_NoKeep_NoShare_NoPointing_NoText_NoNumber_NoPlace_TooMany, rk_tk_NoKeep_NoShare_NoPointing_NoText_NoNumber_NoPlace_NoRow, rk_tk_NoKeep_NoShare_NoPointing_NoText_NoNumber_NoPlace_NoName, rk_tk_ValueError_AskError, rk_tk_ValueError_NoNumber, rk_tk_ValueError_NoTree, rk_tk_ValueError_NoAsks, rk_tk_ValueError_NoKeep, rk_tk_ValueError_NoPrices, rk_tk_ValueError_NoShare, rk_tk_ValueError_NoPointing, rk_tk_ValueError_NoText, rk_tk_ValueError_NoPlace, rk_tk_ValueError_NoChange, rk_tk_ValueError_TooMany, rk_tk_ValueError_NoRow, rk_tk_ValueError_NoName, rk_te_AskError_AskError, rk_te_AskError_NoNumber, rk_te_AskError_NoTree, rk_te_AskError_NoAsks, rk_te_AskError_NoKeep, rk_te_AskError_NoPrices, rk_te_AskError_NoShare, rk_te_AskError_NoPointing, rk_te_AskError_NoText, rk_te_AskError_NoPlace, rk_te_AskError_NoChange, rk_te_AskError_TooMany, rk_te_AskError_NoRow, rk_te_AskError_NoName, rk_cl_number_NoTree, rk_f_cl_number_NoTree, rk_cl_number_NoAsks, rk_f_cl_number_NoAsks, rk_cl_number_NoKeep, rk_f_cl_number_NoKeep, rk_cl_number_NoPrices, rk_f_cl_number_NoPrices, rk_cl_number_NoShare, rk_f_cl_number_NoShare, eDsp_k, kdsp_ok, vals_nil, vals_cons, consV_ok, vC_k, vVar_k, lk0_ok, sStore1_k, ksto1_ok, sto1O_k, sto1O1_k, sto1O2_k, at1_k, at1O_k, put1_k, put1O_k, sRev1_k, rev1LO_k, rev1L_k, eDGet_k, kdg_ok, kdg1_ok, kdg2_ok, gDGet_i, gInK_i, gNotInK_i, isDct1_k, sDPut_k, kdp_ok, kdp1_ok, dpO_k, sRev_k, revO_k, rev1_k, sRem_k, krem_ok, remO_k, rem1_k, iR3_k, kr3_b, kr3_exc, ePop0_k, pop0_0k, eIdx_k, kidx_ok, kidx2_ok, sAppV_k, appV_k, thn_exc, eView_k, kview_ok, kview_exc, vwO_k, vwX_k, view_nil, view_t, view_f, fz1_some, fz1_none, merge_nil, merge_t, merge_f, mg2_k, mg1_none, mg1_z, mg1_s, mg1_n, mg1_d, clean_int, clean_bl, clean_non, clean_str, clean_tup, clean_lst, cleans_nil, cleans_cons, cleans_ints, cleans_app, put_tup, putO_k, tView_k, ktv_ok, vwT_k, sView_k, kvs_nx, kvs_ret, vsN_k, mergeS_nil, mergeS_t, mergeS_f, mgS_none, mgS_c, mgS_z, eIxM_k, kixm_0, kixm_1, kixm_z0, kixm_z1, sClear_k, clrO_k, clr1_k, sTry_k, ktry_nx, ktry_brk, ktry_cnt, ktry_ret, ktry_exc, hTry_nil, hTry_cons, selH_t, selH_f, hGo_s, hGo_n, nxH_k, endH_nx, endH_brk, endH_cnt, endH_ret, wipeH_s, wipeH_n, xd_cls, xd_ns, xd_ds, gIsX_k, isxO_s, gAt_k, atxO_t, isNon_x, clean_exn, sRaise0_k, sRaiseN_k, krai_1, krai_2, isi_exn, k1_exc, k2b_exc, k2_exc, kn_exc, kc_exc, ka_exc, kt_exc, tand_exc, tor_exc, tnot_exc, tsel_exc, kand_exc, kor_exc, knot_exc, kch3_exc, kch1_exc, kch_exc, ktup_exc, klst_exc, ksl3_exc, ksl2_exc, ksl_exc, ko_exc, kixo_exc, tselS_exc, kret_exc, kdrop_exc, kasg_exc, kpar2_exc, kpar_exc, kapp_exc, ksto2_exc, ksto_exc, kfor_exc, kiseq_exc, kr1_exc, kr2_exc, ken_exc, kzip_exc, krev_exc, kcall_exc, kixm_exc, krai_exc, gCnt_k, cntO_t, gIdx_k, gRev_k, ePop_k, kpop_ok, popO_k, popO1_k, sIns_k, kins_ok, kins2_ok, insO_k, sFrz_k, frzO_k, e1_k, k1_ok, e2_k, k2_ok, k2b_ok, eN_k, kn_ok, aCons_k, ka_ok, kc_ok, aNil_k, eC_k, toRes_none, toRes_pair, look_0, look_s, put_0, put_s, has_0, has_s, eVar_k, vOk_k, eMove_k, mOk_k, tT_k, kt_ok, tAnd_k, tOr_k, tNot_k, and_t, and_f, or_t, or_f, not_k, eIf_k, sel_t, sel_f, eAnd_k, eOr_k, eNot_k, kand_t, kand_f, kor_t, kor_f, knot_k, eChain_k, kch_ok, kch1_ok, kch2_t, kch2_f, kch3_ok, eTup_k, eLst_k, eSl_k, ksl_ok, ksl2_ok, ksl3_ok, oNone_k, oSome_k, ko_ok, eIxO_k, kixo_ok, ixO0_k, ixO1_k, sSeq_k, thn_nx, thn_ret, thn_brk, thn_cnt, sNext_k, sBrk_k, sCnt_k, sRetN_k, sIf_k, selS_t, selS_f, sRet_k, kret_ok, sExpr_k, kdrop_ok, sAsg_k, kasg_ok, nxO_some, oneO_t, setOne_k, set_nm, set_tup, set_lst0, set_lstS, many_nil, many_cons, manyO_some, md_t, md_f, sPar_k, kpar_ok, kpar2_ok, parO_some, sApp_k, kapp_ok, appO_k, appO1_k, sStore_k, ksto_ok, ksto2_ok, stoO_k, stoO1_k, stoO2_k, sFor_k, kfor_ok, kloop_nx, kloop_cnt, kloop_brk, kloop_ret, kloop_exc, iSeq_k, kiseq_l, kiseq_t, iR1_k, iR2_k, kr1_ok, kr2_ok, iEnum_k, iZip_k, iRev_k, ken_ok, kzip_ok, krev_ok, eCompN_k, kcomp_ok, wipe_nil, wipe_cons, cmpO_some, tYes_k, eCall_k, kcall_ok, bindO_some, kb_ok, kb_exc, backO_some, backX_some, aLend_k, lendO_some, consO_some, bind_nil, bind_F, bindT_t, bind_T, bindL_some, bind_L, none_nil, none_F, none_L, back_nil, back_F, back_T, back_L, runF_k, kfin_nx, kfin_ret, kfin_exc, finO_some, finX_some, outs_nil, outs_F, outs_O, start_cons, start_nil, start_nilS, gAdd_i, gSub_i, gMod_i, gNeg_i, gPow_i, gEq_i, gEq_b, gEq_s, gNe_i, gNe_b, gNe_s, gCmp_i, isNon_n, isNon_b, isNon_i, isNon_s, isNon_t, isNon_l, gIs_n, gIs_b, gIsNot_n, gIsNot_b, gLen_l, gLen_t, gLen_r, gAbs_i, gMax_i, gMin_i, gInt_i, gInt_t, gInt_f, gList_l, gList_t, gTuple_l, gTuple_t, mapO_k, gIx_l, gIx_t, gIx_r, atI_0, atI_1, atI_2, atI_3, atI_4, ixN_0, ixN_1, ixN_2, isi_non_bool, isi_non_int, isi_non_str, isi_non_tuple, isi_non_list, isi_non_dict, isi_bl_bool, isi_bl_int, isi_bl_str, isi_bl_tuple, isi_bl_list, isi_bl_dict, isi_int_bool, isi_int_int, isi_int_str, isi_int_tuple, isi_int_list, isi_int_dict, isi_str_bool, isi_str_int, isi_str_str, isi_str_tuple, isi_str_list, isi_str_dict, isi_tup_bool, isi_tup_int, isi_tup_str, isi_tup_tuple, isi_tup_list, isi_tup_dict, isi_lst_bool, isi_lst_int, isi_lst_str, isi_lst_tuple, isi_lst_list, isi_lst_dict, isi_dct_bool, isi_dct_int, isi_dct_str, isi_dct_tuple, isi_dct_list, isi_dct_dict, isi_scr_bool, isi_scr_int, isi_scr_str, isi_scr_tuple, isi_scr_list, isi_scr_dict, klst_0, ktup_0, klst_1, ktup_1, klst_2, ktup_2, klst_3, ktup_3, klst_4, ktup_4, klst_5, ktup_5, klst_6, ktup_6, klst_7, ktup_7, klst_8, ktup_8, klst_9, ktup_9, klst_10, ktup_10, klst_11, ktup_11, klst_12, ktup_12, klst_13, ktup_13, klst_14, ktup_14, klst_15, ktup_15, klst_16, ktup_16, klst_17, ktup_17, klst_18, ktup_18, klst_19, ktup_19, klst_20, ktup_20, at_nil, put_nil, at_tup, atO_k, lenIs_n, lenIs_c, isLst_l, ownL_k, dispM_eq, dsp_n, dsp_s, dsp_na, dsp_nm, dsp_sa, dsp_sm, dsp_sd, atom_t, atom_l, atom_d, atom_i, atom_b, atom_s, atom_n, joinM_a, joinM_0, ixO2_a, ixO2_0, dict0_k, kwh_t, kwh_f, atP_k, eLenO_k, lenO_k, List.map_cons, List.map_nil, ownL_k, eq_self, ne_eq, not_false_eq_true, decide_true, decide_false, Bool.not_true, Bool.not_false, if_true, if_false, reduceCtorEq, List.length_cons, List.length_nil, Int.reduceEq, Int.reduceNe, Int.reduceLT, Int.reduceLE, Int.reduceGT, Int.reduceGE, Int.reduceAdd, Int.reduceMul, Int.reduceSub, Int.reduceNeg, Int.reducePow, Int.reduceToNat, Bool.and_self, Bool.and_true, Bool.true_and, Nat.reduceAdd, Nat.reduceBEq, Nat.reduceLT, Nat.reduceEqDiff, Int.cast_ofNat_Int, Nat.zero_add, Nat.reduceLeDiff, List.set_cons_zero, List.set_cons_succ, List.getElem?_cons_zero, List.getElem?_cons_succ, List.nil_append, List.cons_append, Int.toNat_zero, Int.toNat_one, beq_self_eq_true, mg1_Z, fS_k, fS1_k, okS_nx, okS_cnt, okS_brk, okS_ret, okS_exc, okW_t, okW_f, okW_exc, cS_k, cS1_k, cS2_t, cS2_f, cS3_k, gMul_64, gDiv_64, gMod_p, gPow_10, kr1_b, kr2_b, ixN_b, appO1_b, stoO2_k, gAdd_lb, forL_cons, forL_nil, forO_some, List.length_map, List.length_append, List.length_set, Int.toNat_natCast, Int.reducePow, Int.reduceToNat, Nat.add_zero, Int.add_zero, Int.zero_add, decide_eq_true_eq, range_len, ite_true, ite_false, Bool.false_eq_true, Bool.cond_true, Bool.cond_false, pop_IL, IL_len, gListR_b, gSl_l, cut_take, cut_drop, cut_drop1, ixF0, ixF1, gA1, gA2, gA4, *])
local macro_rules | `(tactic| walk_at "gn") => `(tactic| simp (maxDischargeDepth := 8) (disch := (first | (walk_at "dl"; done) | omega | assumption | (simp only [List.length_map, List.length_append, List.length_cons, List.length_nil, List.length_set, List.length_replicate, IL_len]; omega))) only [rk_tk_NoPrices_AskError, rk_tk_NoPrices_NoNumber, rk_tk_NoPrices_NoTree, rk_tk_NoPrices_NoAsks, rk_tk_NoPrices_NoKeep, rk_tk_NoPrices_NoPrices, rk_tk_NoPrices_NoShare, rk_tk_NoPrices_NoPointing, rk_tk_NoPrices_NoText, rk_tk_NoPrices_NoPlace, rk_tk_NoPrices_NoChange, rk_tk_NoPrices_TooMany, rk_tk_NoPrices_NoRow, rk_tk_NoPrices_NoName, rk_tk_NoAsks_AskError, rk_tk_NoAsks_NoNumber, rk_tk_NoAsks_NoTree, rk_tk_NoAsks_NoAsks, rk_tk_NoAsks_NoKeep, rk_tk_NoAsks_NoPrices, rk_tk_NoAsks_NoShare, rk_tk_NoAsks_NoPointing, rk_tk_NoAsks_NoText, rk_tk_NoAsks_NoPlace, rk_tk_NoAsks_NoChange, rk_tk_NoAsks_TooMany, rk_tk_NoAsks_NoRow, rk_tk_NoAsks_NoName, rk_tk_NoTree_AskError, rk_tk_NoTree_NoNumber, rk_tk_NoTree_NoTree, rk_tk_NoTree_NoAsks, rk_tk_NoTree_NoKeep, rk_tk_NoTree_NoPrices, rk_tk_NoTree_NoShare, rk_tk_NoTree_NoPointing, rk_tk_NoTree_NoText, rk_tk_NoTree_NoPlace, rk_tk_NoTree_NoChange, rk_tk_NoTree_TooMany, rk_tk_NoTree_NoRow, rk_tk_NoTree_NoName, rk_tk_NoChange_TooMany_NoRow_NoName_AskError, rk_tk_NoChange_TooMany_NoRow_NoName_NoNumber, rk_tk_NoChange_TooMany_NoRow_NoName_NoTree, rk_tk_NoChange_TooMany_NoRow_NoName_NoAsks, rk_tk_NoChange_TooMany_NoRow_NoName_NoKeep, rk_tk_NoChange_TooMany_NoRow_NoName_NoPrices, rk_tk_NoChange_TooMany_NoRow_NoName_NoShare, rk_tk_NoChange_TooMany_NoRow_NoName_NoPointing, rk_tk_NoChange_TooMany_NoRow_NoName_NoText, rk_tk_NoChange_TooMany_NoRow_NoName_NoPlace, rk_tk_NoChange_TooMany_NoRow_NoName_NoChange, rk_tk_NoChange_TooMany_NoRow_NoName_TooMany, rk_tk_NoChange_TooMany_NoRow_NoName_NoRow, rk_tk_NoChange_TooMany_NoRow_NoName_NoName, rk_tk_NoKeep_NoShare_NoPointing_NoText_NoNumber_NoPlace_AskError, rk_tk_NoKeep_NoShare_NoPointing_NoText_NoNumber_NoPlace_NoNumber, rk_tk_NoKeep_NoShare_NoPointing_NoText_NoNumber_NoPlace_NoTree, rk_tk_NoKeep_NoShare_NoPointing_NoText_NoNumber_NoPlace_NoAsks, rk_tk_NoKeep_NoShare_NoPointing_NoText_NoNumber_NoPlace_NoKeep, rk_tk_NoKeep_NoShare_NoPointing_NoText_NoNumber_NoPlace_NoPrices, rk_tk_NoKeep_NoShare_NoPointing_NoText_NoNumber_NoPlace_NoShare, rk_tk_NoKeep_NoShare_NoPointing_NoText_NoNumber_NoPlace_NoPointing, rk_tk_NoKeep_NoShare_NoPointing_NoText_NoNumber_NoPlace_NoText, rk_tk_NoKeep_NoShare_NoPointing_NoText_NoNumber_NoPlace_NoPlace, rk_tk_NoKeep_NoShare_NoPointing_NoText_NoNumber_NoPlace_NoChange, rk_tk_NoKeep_NoShare_NoPointing_NoText_NoNumber_NoPlace_TooMany, rk_tk_NoKeep_NoShare_NoPointing_NoText_NoNumber_NoPlace_NoRow, rk_tk_NoKeep_NoShare_NoPointing_NoText_NoNumber_NoPlace_NoName, rk_tk_ValueError_AskError, rk_tk_ValueError_NoNumber, rk_tk_ValueError_NoTree, rk_tk_ValueError_NoAsks, rk_tk_ValueError_NoKeep, rk_tk_ValueError_NoPrices, rk_tk_ValueError_NoShare, rk_tk_ValueError_NoPointing, rk_tk_ValueError_NoText, rk_tk_ValueError_NoPlace, rk_tk_ValueError_NoChange, rk_tk_ValueError_TooMany, rk_tk_ValueError_NoRow, rk_tk_ValueError_NoName, rk_te_AskError_AskError, rk_te_AskError_NoNumber, rk_te_AskError_NoTree, rk_te_AskError_NoAsks, rk_te_AskError_NoKeep, rk_te_AskError_NoPrices, rk_te_AskError_NoShare, rk_te_AskError_NoPointing, rk_te_AskError_NoText, rk_te_AskError_NoPlace, rk_te_AskError_NoChange, rk_te_AskError_TooMany, rk_te_AskError_NoRow, rk_te_AskError_NoName, rk_cl_number_NoTree, rk_f_cl_number_NoTree, rk_cl_number_NoAsks, rk_f_cl_number_NoAsks, rk_cl_number_NoKeep, rk_f_cl_number_NoKeep, rk_cl_number_NoPrices, rk_f_cl_number_NoPrices, rk_cl_number_NoShare, rk_f_cl_number_NoShare, eDsp_k, kdsp_ok, vals_nil, vals_cons, consV_ok, vC_k, vVar_k, lk0_ok, sStore1_k, ksto1_ok, sto1O_k, sto1O1_k, sto1O2_k, at1_k, at1O_k, put1_k, put1O_k, sRev1_k, rev1LO_k, rev1L_k, eDGet_k, kdg_ok, kdg1_ok, kdg2_ok, gDGet_i, gInK_i, gNotInK_i, isDct1_k, sDPut_k, kdp_ok, kdp1_ok, dpO_k, sRev_k, revO_k, rev1_k, sRem_k, krem_ok, remO_k, rem1_k, iR3_k, kr3_b, kr3_exc, ePop0_k, pop0_0k, eIdx_k, kidx_ok, kidx2_ok, sAppV_k, appV_k, thn_exc, eView_k, kview_ok, kview_exc, vwO_k, vwX_k, view_nil, view_t, view_f, fz1_some, fz1_none, merge_nil, merge_t, merge_f, mg2_k, mg1_none, mg1_z, mg1_s, mg1_n, mg1_d, clean_int, clean_bl, clean_non, clean_str, clean_tup, clean_lst, cleans_nil, cleans_cons, cleans_ints, cleans_app, put_tup, putO_k, tView_k, ktv_ok, vwT_k, sView_k, kvs_nx, kvs_ret, vsN_k, mergeS_nil, mergeS_t, mergeS_f, mgS_none, mgS_c, mgS_z, eIxM_k, kixm_0, kixm_1, kixm_z0, kixm_z1, sClear_k, clrO_k, clr1_k, sTry_k, ktry_nx, ktry_brk, ktry_cnt, ktry_ret, ktry_exc, hTry_nil, hTry_cons, selH_t, selH_f, hGo_s, hGo_n, nxH_k, endH_nx, endH_brk, endH_cnt, endH_ret, wipeH_s, wipeH_n, xd_cls, xd_ns, xd_ds, gIsX_k, isxO_s, gAt_k, atxO_t, isNon_x, clean_exn, sRaise0_k, sRaiseN_k, krai_1, krai_2, isi_exn, k1_exc, k2b_exc, k2_exc, kn_exc, kc_exc, ka_exc, kt_exc, tand_exc, tor_exc, tnot_exc, tsel_exc, kand_exc, kor_exc, knot_exc, kch3_exc, kch1_exc, kch_exc, ktup_exc, klst_exc, ksl3_exc, ksl2_exc, ksl_exc, ko_exc, kixo_exc, tselS_exc, kret_exc, kdrop_exc, kasg_exc, kpar2_exc, kpar_exc, kapp_exc, ksto2_exc, ksto_exc, kfor_exc, kiseq_exc, kr1_exc, kr2_exc, ken_exc, kzip_exc, krev_exc, kcall_exc, kixm_exc, krai_exc, gCnt_k, cntO_t, gIdx_k, gRev_k, ePop_k, kpop_ok, popO_k, popO1_k, sIns_k, kins_ok, kins2_ok, insO_k, sFrz_k, frzO_k, e1_k, k1_ok, e2_k, k2_ok, k2b_ok, eN_k, kn_ok, aCons_k, ka_ok, kc_ok, aNil_k, eC_k, toRes_none, toRes_pair, look_0, look_s, put_0, put_s, has_0, has_s, eVar_k, vOk_k, eMove_k, mOk_k, tT_k, kt_ok, tAnd_k, tOr_k, tNot_k, and_t, and_f, or_t, or_f, not_k, eIf_k, sel_t, sel_f, eAnd_k, eOr_k, eNot_k, kand_t, kand_f, kor_t, kor_f, knot_k, eChain_k, kch_ok, kch1_ok, kch2_t, kch2_f, kch3_ok, eTup_k, eLst_k, eSl_k, ksl_ok, ksl2_ok, ksl3_ok, oNone_k, oSome_k, ko_ok, eIxO_k, kixo_ok, ixO0_k, ixO1_k, sSeq_k, thn_nx, thn_ret, thn_brk, thn_cnt, sNext_k, sBrk_k, sCnt_k, sRetN_k, sIf_k, selS_t, selS_f, sRet_k, kret_ok, sExpr_k, kdrop_ok, sAsg_k, kasg_ok, nxO_some, oneO_t, setOne_k, set_nm, set_tup, set_lst0, set_lstS, many_nil, many_cons, manyO_some, md_t, md_f, sPar_k, kpar_ok, kpar2_ok, parO_some, sApp_k, kapp_ok, appO_k, appO1_k, sStore_k, ksto_ok, ksto2_ok, stoO_k, stoO1_k, stoO2_k, sFor_k, kfor_ok, kloop_nx, kloop_cnt, kloop_brk, kloop_ret, kloop_exc, iSeq_k, kiseq_l, kiseq_t, iR1_k, iR2_k, kr1_ok, kr2_ok, iEnum_k, iZip_k, iRev_k, ken_ok, kzip_ok, krev_ok, eCompN_k, kcomp_ok, wipe_nil, wipe_cons, cmpO_some, tYes_k, eCall_k, kcall_ok, bindO_some, kb_ok, kb_exc, backO_some, backX_some, aLend_k, lendO_some, consO_some, bind_nil, bind_F, bindT_t, bind_T, bindL_some, bind_L, none_nil, none_F, none_L, back_nil, back_F, back_T, back_L, runF_k, kfin_nx, kfin_ret, kfin_exc, finO_some, finX_some, outs_nil, outs_F, outs_O, start_cons, start_nil, start_nilS, gAdd_i, gSub_i, gMod_i, gNeg_i, gPow_i, gEq_i, gEq_b, gEq_s, gNe_i, gNe_b, gNe_s, gCmp_i, isNon_n, isNon_b, isNon_i, isNon_s, isNon_t, isNon_l, gIs_n, gIs_b, gIsNot_n, gIsNot_b, gLen_l, gLen_t, gLen_r, gAbs_i, gMax_i, gMin_i, gInt_i, gInt_t, gInt_f, gList_l, gList_t, gTuple_l, gTuple_t, mapO_k, gIx_l, gIx_t, gIx_r, atI_0, atI_1, atI_2, atI_3, atI_4, ixN_0, ixN_1, ixN_2, isi_non_bool, isi_non_int, isi_non_str, isi_non_tuple, isi_non_list, isi_non_dict, isi_bl_bool, isi_bl_int, isi_bl_str, isi_bl_tuple, isi_bl_list, isi_bl_dict, isi_int_bool, isi_int_int, isi_int_str, isi_int_tuple, isi_int_list, isi_int_dict, isi_str_bool, isi_str_int, isi_str_str, isi_str_tuple, isi_str_list, isi_str_dict, isi_tup_bool, isi_tup_int, isi_tup_str, isi_tup_tuple, isi_tup_list, isi_tup_dict, isi_lst_bool, isi_lst_int, isi_lst_str, isi_lst_tuple, isi_lst_list, isi_lst_dict, isi_dct_bool, isi_dct_int, isi_dct_str, isi_dct_tuple, isi_dct_list, isi_dct_dict, isi_scr_bool, isi_scr_int, isi_scr_str, isi_scr_tuple, isi_scr_list, isi_scr_dict, klst_0, ktup_0, klst_1, ktup_1, klst_2, ktup_2, klst_3, ktup_3, klst_4, ktup_4, klst_5, ktup_5, klst_6, ktup_6, klst_7, ktup_7, klst_8, ktup_8, klst_9, ktup_9, klst_10, ktup_10, klst_11, ktup_11, klst_12, ktup_12, klst_13, ktup_13, klst_14, ktup_14, klst_15, ktup_15, klst_16, ktup_16, klst_17, ktup_17, klst_18, ktup_18, klst_19, ktup_19, klst_20, ktup_20, at_nil, put_nil, at_tup, atO_k, lenIs_n, lenIs_c, isLst_l, ownL_k, dispM_eq, dsp_n, dsp_s, dsp_na, dsp_nm, dsp_sa, dsp_sm, dsp_sd, atom_t, atom_l, atom_d, atom_i, atom_b, atom_s, atom_n, joinM_a, joinM_0, ixO2_a, ixO2_0, dict0_k, kwh_t, kwh_f, atP_k, eLenO_k, lenO_k, List.map_cons, List.map_nil, ownL_k, eq_self, ne_eq, not_false_eq_true, decide_true, decide_false, Bool.not_true, Bool.not_false, if_true, if_false, reduceCtorEq, List.length_cons, List.length_nil, Int.reduceEq, Int.reduceNe, Int.reduceLT, Int.reduceLE, Int.reduceGT, Int.reduceGE, Int.reduceAdd, Int.reduceMul, Int.reduceSub, Int.reduceNeg, Int.reducePow, Int.reduceToNat, Bool.and_self, Bool.and_true, Bool.true_and, Nat.reduceAdd, Nat.reduceBEq, Nat.reduceLT, Nat.reduceEqDiff, Int.cast_ofNat_Int, Nat.zero_add, Nat.reduceLeDiff, List.set_cons_zero, List.set_cons_succ, List.getElem?_cons_zero, List.getElem?_cons_succ, List.nil_append, List.cons_append, Int.toNat_zero, Int.toNat_one, beq_self_eq_true, mg1_Z, fS_k, fS1_k, okS_nx, okS_cnt, okS_brk, okS_ret, okS_exc, okW_t, okW_f, okW_exc, cS_k, cS1_k, cS2_t, cS2_f, cS3_k, gMul_64, gDiv_64, gMod_p, gPow_10, kr1_b, kr2_b, ixN_b, appO1_b, stoO2_k, gAdd_lb, forL_cons, forL_nil, forO_some, List.length_map, List.length_append, List.length_set, Int.toNat_natCast, Int.reducePow, Int.reduceToNat, Nat.add_zero, Int.add_zero, Int.zero_add, decide_eq_true_eq, range_len, ite_true, ite_false, Bool.false_eq_true, Bool.cond_true, Bool.cond_false, pop_IL, IL_len, gListR_b, gSl_l, cut_take, cut_drop, cut_drop1, ixF0, ixF1, gA1, gA2, gA4])
def Th23 (d : D) : Prop := (∃ ds, d = .lst ds ∧ OkL ds) ∨ (gIsi "list" d = some (0, .bl false) ∧ d.okE = true)
theorem cans_all {ds : List D} (h : ∀ d ∈ ds, d.can = true) : D.cans ds = true := by
  induction ds with
  | nil => simp [D.cans]
  | cons d ds ih => simp only [D.cans, h d List.mem_cons_self, ih fun x hx => h x (List.mem_cons_of_mem _ hx), Bool.and_self]
theorem depth_all {n : Nat} {ds : List D} (h : ∀ d ∈ ds, PyData.depth d.py ≤ n) : PyData.depthAll (D.pys ds) ≤ n := by
  induction ds with
  | nil => simp [D.pys, PyData.depthAll]
  | cons d ds ih =>
    have h1 := h d List.mem_cons_self
    have h2 := ih fun x hx => h x (List.mem_cons_of_mem _ hx)
    simp only [D.pys, PyData.depthAll]
    omega
theorem tup23 {ds : List D} (h : ∀ d ∈ ds, OkI d) : (D.tup ds).okE = true := okE_of (by simp only [D.can]; exact cans_all fun d hd => (h d hd).cn) (by
  have := depth_all (n := 4) fun d hd => (h d hd).dp
  simp only [D.py, PyData.depth]
  omega)
theorem lst23 {ds : List D} (h : ∀ d ∈ ds, OkI d) : (D.lst ds).okE = true := okE_of (by simp only [D.can]; exact cans_all fun d hd => (h d hd).cn) (by
  have := depth_all (n := 4) fun d hd => (h d hd).dp
  simp only [D.py, PyData.depth]
  omega)
theorem thing23_k (n : Nat) (hn : n ≤ 23) (a b : Int) (hb : Sd b) : ∃ (d : D) (m : Nat) (a' b' : Int), phi__law_thing [.int n, .lst [.int a, .int b]] = .ok m d [.lst [.int a', .int b']] ∧ Th23 d := by
  unfold phi__law_thing b__law_thing
  walk_at "gn"
  generalize hC : compL _ _ _ _ _ _ _ = rc
  obtain ⟨ls, δ', rfl, ⟨a1, b1, rfl, hb1⟩, hCl, hCb⟩ := comp_inv (β := Rat) hC (fun δ => ∃ a b : Int, δ = [some (0, .int n), some (1, .lst [.int a, .int b]), none, none, none, none, none] ∧ Sd b) fr (fun r => OkI (fr r)) ⟨a, b, rfl, hb⟩ (by
    rintro d hd _ ⟨a, b, rfl, hb⟩
    obtain ⟨r, m, a5, b5, q5, rfl, hb5, hr, _⟩ := price23_k a b hb
    refine ⟨r, _, ?_, okI_fr hr, a5, b5, rfl, hb5⟩
    walk_at "gn"
    rw [q5]
    walk_at "gn") (by rw [List.length_nil]; unfold rangeD; rw [List.length_map, List.length_range]; omega)
  unfold rangeD at hCl
  rw [List.length_map, List.length_range] at hCl
  rw [List.nil_append]
  obtain ⟨v, a2, b2, q2, v0, v1, hb2⟩ := draw_k a1 b1 3 hb1 (by decide) (by decide)
  walk_at "gn"
  rw [q2]
  walk_at "gn"
  generalize hF : forL _ _ _ _ = r
  have hR := for_range0Q hF (fun i δ => ∃ (ds : List D) (a b : Int) (x3 x4 x5 x6 : Option (Nat × D)), δ = [some (0, .int n), some (1, .lst [.int a, .int b]), some (0, .lst ds), x3, x4, x5, x6] ∧ (∀ d ∈ ds, OkI d) ∧ ds.length ≤ n + 3 * i ∧ Sd b)
    (fun r => ∃ (m : Nat) (d : D) (δ : DL.Env) (a b : Int) (x2 x3 x4 x5 x6 : Option (Nat × D)), r = .ret m d δ ∧ δ = [some (0, .int n), some (1, .lst [.int a, .int b]), x2, x3, x4, x5, x6] ∧ Th23 d)
    ⟨ls.map fr, a2, b2, _, _, _, _, rfl, (fun d hd => by
      obtain ⟨r, hr, rfl⟩ := List.mem_map.mp hd
      exact hCb r hr), by rw [List.length_map]; omega, hb2⟩ (by
    rintro i _ hi ⟨ds, a, b, x3, x4, x5, x6, rfl, hd, hl, hb⟩
    have hi3 : i < 3 := by omega
    have hm : ds.length ≤ 100 := by omega
    obtain ⟨w, a5, b5, q5, w0, w1, hb5⟩ := draw_k a b 8 hb (by decide) (by decide)
    obtain ⟨u, a6, b6, q6, u0, u1, hb6⟩ := draw_k a5 b5 ((ds.length : Int) + 1) hb5 (by omega) (by omega)
    obtain ⟨u, rfl⟩ : ∃ n : Nat, u = n := ⟨u.toNat, by omega⟩
    walk_at "gn"
    rw [q5]
    walk_at "gn"
    rw [q6]
    walk_at "gn"
    by_cases y0 : w = 0
    · rw [decide_eq_true y0]
      walk_at "gn"
      obtain ⟨t, a7, b7, q7, t0, t1, hb7⟩ := draw_k a6 b6 8 hb6 (by decide) (by decide)
      rw [q7]
      walk_at "gn"
      generalize hX : atI _ t = X
      obtain ⟨d, rfl, hP⟩ := pick23 (P := Th23) hX (fall_cons (.inr ⟨rfl, okE_of (by simp [D.can, D.cans]) (by simp [D.py, D.pys, PyData.depth, PyData.depthAll, PyData.depthKv])⟩) (fall_cons (.inr ⟨rfl, okE_of (by simp [D.can, D.cans]) (by simp [D.py, D.pys, PyData.depth, PyData.depthAll, PyData.depthKv])⟩) (fall_cons (.inr ⟨rfl, okE_of (by simp [D.can, D.cans]) (by simp [D.py, D.pys, PyData.depth, PyData.depthAll, PyData.depthKv])⟩) (fall_cons (.inr ⟨rfl, okE_of (by simp [D.can, D.cans]) (by simp [D.py, D.pys, PyData.depth, PyData.depthAll, PyData.depthKv])⟩) (fall_cons (.inr ⟨rfl, okE_of (by simp [D.can, D.cans]) (by simp [D.py, D.pys, PyData.depth, PyData.depthAll, PyData.depthKv])⟩) (fall_cons (.inr ⟨rfl, okE_of (by simp [D.can, D.cans]) (by simp [D.py, D.pys, PyData.depth, PyData.depthAll, PyData.depthKv])⟩) (fall_cons (.inr ⟨rfl, tup23 hd⟩) (fall_cons (.inr ⟨rfl, okE_of (by simp [D.can, D.cans]) (by simp [D.py, D.pys, PyData.depth, PyData.depthAll, PyData.depthKv])⟩) fall_nil)))))))) t0 (by show t < 8; exact t1)
      walk_at "gn"
      exact ⟨_, _, _, _, _, _, _, _, _, _, rfl, rfl, hP⟩
    · rw [decide_eq_false y0]
      walk_at "gn"
      by_cases y1 : w < 4
      · rw [decide_eq_true y1]
        walk_at "gn"
        obtain ⟨x, m, a7, b7, q7, hb7, hx⟩ := odd23_k a6 b6 hb6
        rw [q7]
        walk_at "gn"
        refine ⟨_, _, _, _, _, _, _, rfl, fun d hdm => ?_, ?_, hb7⟩
        · rcases List.mem_append.mp hdm with h | h
          · rcases List.mem_append.mp h with h | h
            · exact hd d (List.mem_of_mem_take h)
            · rw [List.mem_singleton.mp h]; exact hx
          · exact hd d (List.mem_of_mem_drop h)
        · simp only [List.length_append, List.length_take, List.length_drop, List.length_singleton]; omega
      · rw [decide_eq_false y1]
        walk_at "gn"
        by_cases y2 : w < 6
        · rw [decide_eq_true y2]
          walk_at "gn"
          exact ⟨_, _, _, _, _, _, _, rfl, fun d hdm => hd d (List.mem_of_mem_take hdm), by rw [List.length_take]; omega, hb6⟩
        · rw [decide_eq_false y2]
          walk_at "gn"
          obtain ⟨v, a8, b8, q8, v0, v1, hb8⟩ := draw_k a6 b6 3 hb6 (by decide) (by decide)
          rw [q8]
          walk_at "gn"
          generalize hF2 : forL _ _ (rangeD 0 (1 + v).toNat) _ = r2
          obtain ⟨δ', rfl, es, a9, b9, y3, rfl, he, hel, hb9⟩ := for_range0 hF2 (fun j δ => ∃ (es : List D) (a b : Int) (y3 : Option (Nat × D)), δ = [some (0, .int n), some (1, .lst [.int a, .int b]), some (0, .lst es), y3, some (0, .int i), some (0, .int w), some (0, .int u)] ∧ (∀ d ∈ es, OkI d) ∧ es.length ≤ ds.length + j ∧ Sd b) ⟨ds, a8, b8, _, rfl, hd, by omega, hb8⟩ (by
            rintro j _ hj ⟨es, a, b, y3, rfl, he, hel, hb⟩
            have hm2 : es.length ≤ 100 := by omega
            obtain ⟨r, m, a1, b1, q1, rfl, hb1, hr, _⟩ := price23_k a b hb
            obtain ⟨x, m, a2, b2, q2, hb2, hx⟩ := odd23_k a1 b1 hb1
            obtain ⟨t, a3, b3, q3, t0, t1, hb3⟩ := draw_k a2 b2 2 hb2 (by decide) (by decide)
            walk_at "gn"
            rw [q1]
            walk_at "gn"
            rw [q2]
            walk_at "gn"
            rw [q3]
            walk_at "gn"
            generalize hX : atI _ t = X
            obtain ⟨d, rfl, hP⟩ := pick23 (P := OkI) hX (fall_cons (okI_fr hr) (fall_cons hx fall_nil)) t0 (by show t < 2; exact t1)
            walk_at "gn"
            refine ⟨_, _, _, _, rfl, fun d' hdm => ?_, ?_, hb3⟩
            · rcases List.mem_append.mp hdm with h | h
              · exact he d' h
              · rw [List.mem_singleton.mp h]; exact hP
            · simp only [List.length_append, List.length_singleton]; omega)
          walk_at "gn"
          exact ⟨_, _, _, _, _, _, _, rfl, he, by omega, hb9⟩)
  rcases hR with ⟨δ', rfl, ds, a3, b3, x3, x4, x5, x6, rfl, hd, hl, hb3⟩ | ⟨m, d, δ, a3, b3, x2, x3, x4, x5, x6, rfl, rfl, hd⟩
  · walk_at "gn"
    exact ⟨_, _, _, _, rfl, .inl ⟨ds, rfl, hd, by omega⟩⟩
  · walk_at "gn"
    exact ⟨_, _, _, _, rfl, hd⟩
theorem law_math (ns : List Int) (h : ns.length ≤ 63) : ∃ m outs, phi_law [.scr ns] = .ok m (.bl true) outs := by
  obtain ⟨c0, q1⟩ := cellW_k ns 0
  rw [show ((0 : Nat) : Int) = 0 from rfl] at q1
  obtain ⟨a0, b0, q2, hb0⟩ := source_k c0 0 (by decide)
  rw [show ((0 : Nat) : Int) = 0 from rfl] at q2
  obtain ⟨ps, rs, a1, b1, q3, ht, hb1, hpm⟩ := treeW_k a0 b0 23 hb0 (by decide)
  rw [show ((23 : Nat) : Int) = 23 from rfl] at q3
  have hle := ht.le
  have okT : (D.tup [D.lst ((IL ps).map D.int), D.lst (rs.map D.int)]).okE = true := okE_of (can_of (sh_tr ps rs).1) (Nat.le_trans (sh_tr ps rs).2 (by decide))
  unfold phi_law b_law
  walk_at "gn"
  rw [q1]
  walk_at "gn"
  rw [q2]
  walk_at "gn"
  rw [q3]
  walk_at "gn"
  generalize hF : forL _ _ _ _ = r
  obtain ⟨δ', rfl, x3, x4, x5, x6, rfl⟩ := for_range hF (fun i δ => ∃ (x3 x4 x5 x6 : Option (Nat × D)), δ = [some (0, .scr ns), some (0, (D.tup [D.lst ((IL ps).map D.int), D.lst (rs.map D.int)])), some (0, (D.tup [D.lst ((IL ps).map D.int), D.lst (rs.map D.int)])), x3, x4, x5, x6]) ⟨_, _, _, _, rfl⟩ (by
    rintro i _ hi ⟨x3, x4, x5, x6, rfl⟩
    have ek : (1 : Int) + (i : Int) = ((1 + i : Nat) : Int) := by omega
    rw [ek]
    obtain ⟨c, p1⟩ := cellW_k ns (1 + i)
    obtain ⟨a, b, p2, hb⟩ := source_k c (1 + i) (by
      revert hi
      repeat' split
      all_goals omega)
    obtain ⟨d, m, a', b', p3, hd⟩ := thing23_k ps.length hle a b hb
    obtain ⟨m1, m2, r, p4, p5, hr⟩ := same23 ht (d := d) (by
      rcases hd with h | h
      · exact .inl h
      · exact .inr h.1)
    have hdE : d.okE = true := by
      rcases hd with ⟨ds, rfl, h⟩ | h
      · exact lst23 h.it
      · exact h.2
    walk_at "gn"
    rw [p1]
    walk_at "gn"
    rw [p2]
    walk_at "gn"
    rw [p3]
    walk_at "gn"
    rw [p4]
    walk_at "gn"
    rcases hd with ⟨ds, rfl, h⟩ | h
    · walk_at "gn"
      rw [p5]
      walk_at "gn"
      rw [gNeE_same hr]
      walk_at "gn"
      rw [gNeE_same hdE]
      walk_at "gn"
      rw [gNeE_same okT]
      walk_at "gn"
      exact ⟨_, _, _, _, rfl⟩
    · rw [h.1]
      walk_at "gn"
      rw [p5]
      walk_at "gn"
      rw [gNeE_same hr]
      walk_at "gn"
      rw [gNeE_same hdE]
      walk_at "gn"
      rw [gNeE_same okT]
      walk_at "gn"
      exact ⟨_, _, _, _, rfl⟩)
  walk_at "gn"
  exact ⟨_, _, rfl⟩
theorem facts {P : Program} {w : World} {K : PySem.W.Frag} {h : Heap} {mg : Str → Option Value} {fl : Addr} (X : K.In h) (G : h.Ns mainGlobals mg) (hfa : mg ("law" : Str) = some (.ref fl)) (c : He.SaysD fas fns K) (cx : fxsB fxs K = true) :
    ∃ fd : FuncData, (∀ (s : Shared) (v : Value), BindsTo s fd ⟨[v], []⟩ [("_law_script", v)]) ∧ ∀ base : Heap, K.In base → base.Ns mainGlobals mg → FnOk P w K mg base (L2.CX P w) 6 fl fd ["_law_script"] (spD K mg [0] phi_law) := by
  have g_is_whole := He.glo_ok X G (c.fact 0 (f := .glo "is_whole") rfl)
  have g_divisor := He.glo_ok X G (c.fact 1 (f := .glo "divisor") rfl)
  have g_is_fraction := He.glo_ok X G (c.fact 2 (f := .glo "is_fraction") rfl)
  have g_is_parent := He.glo_ok X G (c.fact 3 (f := .glo "is_parent") rfl)
  have g_is_room := He.glo_ok X G (c.fact 4 (f := .glo "is_room") rfl)
  have g_are_two_lists := He.glo_ok X G (c.fact 5 (f := .glo "are_two_lists") rfl)
  have g_look_at_tree := He.glo_ok X G (c.fact 6 (f := .glo "look_at_tree") rfl)
  have g_look_at_prices := He.glo_ok X G (c.fact 7 (f := .glo "look_at_prices") rfl)
  have g__law_cell := He.glo_ok X G (c.fact 8 (f := .glo "_law_cell") rfl)
  have g__law_source := He.glo_ok X G (c.fact 9 (f := .glo "_law_source") rfl)
  have g__law_draw := He.glo_ok X G (c.fact 10 (f := .glo "_law_draw") rfl)
  have g__law_tree := He.glo_ok X G (c.fact 11 (f := .glo "_law_tree") rfl)
  have g__law_lowest := He.glo_ok X G (c.fact 12 (f := .glo "_law_lowest") rfl)
  have g__law_price := He.glo_ok X G (c.fact 13 (f := .glo "_law_price") rfl)
  have g__law_odd := He.glo_ok X G (c.fact 14 (f := .glo "_law_odd") rfl)
  have g__law_thing := He.glo_ok X G (c.fact 15 (f := .glo "_law_thing") rfl)
  have g__law_whole := He.glo_ok X G (c.fact 16 (f := .glo "_law_whole") rfl)
  have g__law_is_price := He.glo_ok X G (c.fact 17 (f := .glo "_law_is_price") rfl)
  have g__law_due := He.glo_ok X G (c.fact 18 (f := .glo "_law_due") rfl)
  have g__law_kind := He.glo_ok X G (c.fact 19 (f := .glo "_law_kind") rfl)
  have g__law_told := He.glo_ok X G (c.fact 20 (f := .glo "_law_told") rfl)
  have g_law := He.glo_ok X G (c.fact 21 (f := .glo "law") rfl)
  have i_GREATEST_ROOM := He.int_ok X G (c.fact 22 (f := .int "GREATEST_ROOM" 1000000) rfl)
  have i_MOST_TIES := He.int_ok X G (c.fact 23 (f := .int "MOST_TIES" 23) rfl)
  have m_ValueError := He.free_ok X G (c.fact 24 (f := .free "ValueError") rfl)
  have m_abs := He.free_ok X G (c.fact 25 (f := .free "abs") rfl)
  have m_bool := He.free_ok X G (c.fact 26 (f := .free "bool") rfl)
  have m_enumerate := He.free_ok X G (c.fact 27 (f := .free "enumerate") rfl)
  have m_int := He.free_ok X G (c.fact 28 (f := .free "int") rfl)
  have m_isinstance := He.free_ok X G (c.fact 29 (f := .free "isinstance") rfl)
  have m_len := He.free_ok X G (c.fact 30 (f := .free "len") rfl)
  have m_list := He.free_ok X G (c.fact 31 (f := .free "list") rfl)
  have m_max := He.free_ok X G (c.fact 32 (f := .free "max") rfl)
  have m_min := He.free_ok X G (c.fact 33 (f := .free "min") rfl)
  have m_range := He.free_ok X G (c.fact 34 (f := .free "range") rfl)
  have m_tuple := He.free_ok X G (c.fact 35 (f := .free "tuple") rfl)
  have g_NoTree := He.glo_ok X G (c.fact 36 (f := .glo "NoTree") rfl)
  have g_NoPrices := He.glo_ok X G (c.fact 37 (f := .glo "NoPrices") rfl)
  have k_tk_NoPrices := fx_kit (fx_of cx 0 (f := .kit tk_NoPrices [(.own "NoPrices")]) rfl)
  have g_NoAsks := He.glo_ok X G (c.fact 38 (f := .glo "NoAsks") rfl)
  have k_tk_NoAsks := fx_kit (fx_of cx 1 (f := .kit tk_NoAsks [(.own "NoAsks")]) rfl)
  have k_tk_NoTree := fx_kit (fx_of cx 2 (f := .kit tk_NoTree [(.own "NoTree")]) rfl)
  have g_NoChange := He.glo_ok X G (c.fact 39 (f := .glo "NoChange") rfl)
  have g_TooMany := He.glo_ok X G (c.fact 40 (f := .glo "TooMany") rfl)
  have g_NoRow := He.glo_ok X G (c.fact 41 (f := .glo "NoRow") rfl)
  have g_NoName := He.glo_ok X G (c.fact 42 (f := .glo "NoName") rfl)
  have k_tk_NoChange_TooMany_NoRow_NoName := fx_kit (fx_of cx 3 (f := .kit tk_NoChange_TooMany_NoRow_NoName [(.own "NoChange"), (.own "TooMany"), (.own "NoRow"), (.own "NoName")]) rfl)
  have g_NoKeep := He.glo_ok X G (c.fact 43 (f := .glo "NoKeep") rfl)
  have g_NoShare := He.glo_ok X G (c.fact 44 (f := .glo "NoShare") rfl)
  have g_NoPointing := He.glo_ok X G (c.fact 45 (f := .glo "NoPointing") rfl)
  have g_NoText := He.glo_ok X G (c.fact 46 (f := .glo "NoText") rfl)
  have g_NoNumber := He.glo_ok X G (c.fact 47 (f := .glo "NoNumber") rfl)
  have g_NoPlace := He.glo_ok X G (c.fact 48 (f := .glo "NoPlace") rfl)
  have k_tk_NoKeep_NoShare_NoPointing_NoText_NoNumber_NoPlace := fx_kit (fx_of cx 4 (f := .kit tk_NoKeep_NoShare_NoPointing_NoText_NoNumber_NoPlace [(.own "NoKeep"), (.own "NoShare"), (.own "NoPointing"), (.own "NoText"), (.own "NoNumber"), (.own "NoPlace")]) rfl)
  have k_tk_ValueError := fx_kit (fx_of cx 5 (f := .kit tk_ValueError [(.blt "ValueError")]) rfl)
  have a_number := fx_att (fx_of cx 6 (f := .att cl_number "number") rfl)
  have g_AskError := He.glo_ok X G (c.fact 49 (f := .glo "AskError") rfl)
  have t_AskError := fx_exm (fx_of cx 7 (f := .exm te_AskError (.own "AskError")) rfl)
  have b_AskError := fx_of cx 8 (f := .bai "AskError") rfl
  have n_NoTree := fx_of cx 9 (f := .ini "NoTree" ["part", "number"]) rfl
  have n_NoPrices := fx_of cx 10 (f := .ini "NoPrices" ["number"]) rfl
  obtain ⟨fdl, Fl⟩ := c.def_ 21 rfl
  cases hfa.symm.trans g_law
  have b := FunD.bindsA (ps := ["_law_script"]) Fl fun _ _ _ _ _ _ us hl => match us, hl with | [_], _ => rfl
  refine ⟨fdl, fun s v => b s [v] rfl, fun base _ _ => ?_⟩
  have x_NoTree : XI P w K mg base 1 "NoTree" ["part", "number"] := by
    obtain ⟨fd, F⟩ := c.def_ 22 rfl
    exact xi_NoTree F g_NoTree g_AskError n_NoTree b_AskError
  have x_NoPrices : XI P w K mg base 1 "NoPrices" ["number"] := by
    obtain ⟨fd, F⟩ := c.def_ 23 rfl
    exact xi_NoPrices F g_NoPrices g_AskError n_NoPrices b_AskError
  have c_is_whole : FD P w K mg base 1 "is_whole" ["thing"] [0] phi_is_whole := by
    obtain ⟨fd, F⟩ := c.def_ 0 rfl
    exact fd_is_whole F g_is_whole m_bool m_int m_isinstance
  have c_divisor : FD P w K mg base 1 "divisor" ["one", "other"] [0, 0] phi_divisor := by
    obtain ⟨fd, F⟩ := c.def_ 1 rfl
    exact fd_divisor F g_divisor m_abs
  have c_is_fraction : FD P w K mg base 2 "is_fraction" ["thing"] [0] phi_is_fraction := by
    obtain ⟨fd, F⟩ := c.def_ 2 rfl
    exact fd_is_fraction F g_is_fraction c_divisor c_is_whole m_isinstance m_len m_tuple
  have c_is_parent : FD P w K mg base 2 "is_parent" ["thing", "place"] [0, 0] phi_is_parent := by
    obtain ⟨fd, F⟩ := c.def_ 3 rfl
    exact fd_is_parent F g_is_parent c_is_whole
  have c_is_room : FD P w K mg base 2 "is_room" ["thing"] [0] phi_is_room := by
    obtain ⟨fd, F⟩ := c.def_ 4 rfl
    exact fd_is_room F g_is_room c_is_whole i_GREATEST_ROOM
  have c_are_two_lists : FD P w K mg base 1 "are_two_lists" ["thing"] [0] phi_are_two_lists := by
    obtain ⟨fd, F⟩ := c.def_ 5 rfl
    exact fd_are_two_lists F g_are_two_lists i_MOST_TIES m_isinstance m_len m_list m_tuple
  have c_look_at_tree : FD P w K mg base 3 "look_at_tree" ["thing"] [0] phi_look_at_tree := by
    obtain ⟨fd, F⟩ := c.def_ 6 rfl
    exact fd_look_at_tree F g_look_at_tree c_is_room c_is_parent c_are_two_lists m_enumerate g_NoTree x_NoTree
  have c_look_at_prices : FD P w K mg base 4 "look_at_prices" ["tree", "thing"] [0, 0] phi_look_at_prices := by
    obtain ⟨fd, F⟩ := c.def_ 7 rfl
    exact fd_look_at_prices F g_look_at_prices c_is_fraction c_look_at_tree m_enumerate m_isinstance m_len m_list g_NoPrices x_NoPrices
  have c__law_cell : FD P w K mg base 1 "_law_cell" ["_law_script", "_law_k"] [0, 0] phi__law_cell := by
    obtain ⟨fd, F⟩ := c.def_ 8 rfl
    exact fd__law_cell F g__law_cell m_len
  have c__law_source : FD P w K mg base 1 "_law_source" ["_law_cell_here", "_law_k"] [0, 0] phi__law_source := by
    obtain ⟨fd, F⟩ := c.def_ 9 rfl
    exact fd__law_source F g__law_source m_abs
  have c__law_draw : FD P w K mg base 1 "_law_draw" ["_law_source_here", "_law_many"] [1, 0] phi__law_draw := by
    obtain ⟨fd, F⟩ := c.def_ 10 rfl
    exact fd__law_draw F g__law_draw 
  have c__law_tree : FD P w K mg base 2 "_law_tree" ["_law_source_here", "_law_most"] [1, 0] phi__law_tree := by
    obtain ⟨fd, F⟩ := c.def_ 11 rfl
    exact fd__law_tree F g__law_tree c__law_draw m_range
  have c__law_lowest : FD P w K mg base 1 "_law_lowest" ["_law_top", "_law_bottom"] [0, 0] phi__law_lowest := by
    obtain ⟨fd, F⟩ := c.def_ 12 rfl
    exact fd__law_lowest F g__law_lowest m_abs
  have c__law_price : FD P w K mg base 2 "_law_price" ["_law_source_here"] [1] phi__law_price := by
    obtain ⟨fd, F⟩ := c.def_ 13 rfl
    exact fd__law_price F g__law_price c__law_lowest c__law_draw
  have c__law_odd : FD P w K mg base 3 "_law_odd" ["_law_source_here"] [1] phi__law_odd := by
    obtain ⟨fd, F⟩ := c.def_ 14 rfl
    exact fd__law_odd F g__law_odd c__law_draw c__law_price
  have c__law_thing : FD P w K mg base 4 "_law_thing" ["_law_many", "_law_source_here"] [0, 1] phi__law_thing := by
    obtain ⟨fd, F⟩ := c.def_ 15 rfl
    exact fd__law_thing F g__law_thing c__law_draw c__law_odd c__law_price m_len m_range m_tuple
  have c__law_whole : FD P w K mg base 1 "_law_whole" ["_law_thing_here"] [0] phi__law_whole := by
    obtain ⟨fd, F⟩ := c.def_ 16 rfl
    exact fd__law_whole F g__law_whole m_bool m_int m_isinstance
  have c__law_is_price : FD P w K mg base 2 "_law_is_price" ["_law_thing_here"] [0] phi__law_is_price := by
    obtain ⟨fd, F⟩ := c.def_ 17 rfl
    exact fd__law_is_price F g__law_is_price c__law_lowest c__law_whole m_isinstance m_len m_tuple
  have c__law_due : FD P w K mg base 3 "_law_due" ["_law_many", "_law_thing_here"] [0, 0] phi__law_due := by
    obtain ⟨fd, F⟩ := c.def_ 18 rfl
    exact fd__law_due F g__law_due c__law_is_price m_enumerate m_isinstance m_len m_list
  have c__law_kind : FD P w K mg base 1 "_law_kind" ["_law_e"] [0] phi__law_kind := by
    obtain ⟨fd, F⟩ := c.def_ 19 rfl
    exact fd__law_kind F g__law_kind m_ValueError m_isinstance g_NoPrices k_tk_NoPrices g_NoAsks k_tk_NoAsks g_NoTree k_tk_NoTree g_NoChange g_TooMany g_NoRow g_NoName k_tk_NoChange_TooMany_NoRow_NoName g_NoKeep g_NoShare g_NoPointing g_NoText g_NoNumber g_NoPlace k_tk_NoKeep_NoShare_NoPointing_NoText_NoNumber_NoPlace k_tk_ValueError
  have c__law_told : FD P w K mg base 5 "_law_told" ["_law_tree_here", "_law_thing_here"] [0, 0] phi__law_told := by
    obtain ⟨fd, F⟩ := c.def_ 20 rfl
    exact fd__law_told F g__law_told c__law_kind c_look_at_prices m_bool m_int m_isinstance a_number g_AskError t_AskError
  exact fd_law_ok Fl g_law c__law_told c__law_due c__law_thing c__law_source c__law_cell c__law_tree m_isinstance m_len m_list m_max m_min m_range
end DL
open PySem PySem.W PySem.Calls PyProof.Rows
set_option maxRecDepth 100000 in
set_option maxHeartbeats 0 in
theorem PySem.Challenge.cw_treeasks_k23_what_are_prices_holds : PySem.Challenge.rw_treeasks_k23_what_are_prices.Holds := by
  w_on; o_law
  refine HandSHeadRun.head_any (r := OpenLaw.row PySem.Challenge.rw_treeasks_k23_what_are_prices) (q := view (OpenLaw.row PySem.Challenge.rw_treeasks_k23_what_are_prices).prog [42]) (H := DL.hk) (ob := DL.ob) (M := 11180) (loose := DL.names) (d := HandSHeadRun.topDef (OpenLaw.row PySem.Challenge.rw_treeasks_k23_what_are_prices).prog 42) (kwd := []) DL.ob_eq
    (by kernel_rfl) (fun s => by kernel_rfl) DL.run (by kernel_rfl) (by kernel_rfl) (by kernel_rfl) (by rfl) (by first | assumption | decide +kernel) (by decide +kernel) ⟨rfl, rfl, rfl, rfl, rfl, by decide +kernel⟩ ?hw ?hc
  case hw => w_witness2
  case hc =>
    refine DL.law_walk (l := PySem.Challenge.rw_treeasks_k23_what_are_prices) (n := 63) (k := 6) (x := "_law_script") (φ := DL.phi_law) rfl (by decide) (by kernel_rfl) ⟨rfl, by decide, by decide⟩ ?F DL.law_math
    intro w mg fa h Y G hmg0
    obtain ⟨K, KX, c, cx⟩ := Y
    have hmg : mg ("law" : PySem.Str) = some (.ref fa) := by
      have e : (HandSHeadRun.topDef (OpenLaw.row PySem.Challenge.rw_treeasks_k23_what_are_prices).prog 42).name = ("law" : PySem.Str) := by kernel_rfl
      rw [← e]
      exact hmg0
    obtain ⟨fd, hb, hF⟩ := DL.facts (P := (PySem.Challenge.rw_treeasks_k23_what_are_prices).prog) (w := w) KX G hmg c cx
    exact ⟨K, fd, KX, hb, hF⟩
